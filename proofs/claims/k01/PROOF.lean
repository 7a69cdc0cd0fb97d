import PyProof.Rows.All
import Wide.All
import OpenK.AllK
import Wide.FinOn
import HandS.ForMost
import HandS.Flow
import HandS.Style
import HandS.IsInst
import HandS.Walk
import HandS.Wide
import HandS.Deep
import HandS.TupAny
import HandS.SortRule
import HandS.SortInts
import HandS.Small
import HandS.More
import HandS.Codes
import HandS.Zip
import KE.DataMinMax
import HandS.Conv
import KE.SortData
import KE.KDictWalk
import HandS.ReplaceLit
import HandS.ReplaceList
import HandS.Text
import KE.IntTextText
import PySem.Challenge.RW_manyheads_k01_names
set_option Elab.async false
set_option autoImplicit false
set_option linter.all false
set_option maxRecDepth 100000
set_option maxHeartbeats 2000000
/-! The data layer: immutable data as values (PyData), mutable objects by address. -/
namespace DL
open PySem PySem.Spec PyProof.Rows L2

/-- a slot: nothing known, data, a mutable object, the script -/
inductive Sl where
  | n | d (x : PyData) | m (a : Addr) | s (ns : List Int) | t (ss : List Sl)
  | c (x : PyData) | o (C : Addr) (fs : List (Str × PyData)) | f (kvs : List (List Key × PyData))
/-- a mutable object -/
inductive MO where
  | lst (xs : List Sl) | dK (kvs : List (Key × Sl)) | dT (kvs : List (List Key × Sl))
  | lK (od : Obj) (kws : List (Key × V)) (kvs : List (Key × Sl)) | lT (od : Obj) (kws : List (List Key × V)) (kvs : List (List Key × Sl))
  | ins (C dx : Addr) (fs : List (Str × Sl)) | own (x : Addr)
abbrev MHp := Addr → Option MO
def mput (M : MHp) (a : Addr) (o : MO) : MHp := fun b => if b = a then some o else M b
def mdel (M : MHp) (a : Addr) : MHp := fun b => if b = a then none else M b
theorem mput_same {M : MHp} {a : Addr} {o : MO} : mput M a o a = some o := by unfold mput; rw [if_pos rfl]
theorem mput_ne {M : MHp} {a b : Addr} {o : MO} (h : b ≠ a) : mput M a o b = M b := by unfold mput; rw [if_neg h]
theorem mput_mput {M : MHp} {a : Addr} {o u : MO} : mput (mput M a o) a u = mput M a u := by
  funext b; unfold mput; split <;> rfl
theorem mdel_same {M : MHp} {a : Addr} : mdel M a a = none := by unfold mdel; rw [if_pos rfl]
theorem mdel_ne {M : MHp} {a b : Addr} (h : b ≠ a) : mdel M a b = M b := by unfold mdel; rw [if_neg h]
theorem mdel_mput {M : MHp} {a : Addr} {o : MO} (h : M a = none) : mdel (mput M a o) a = M := by
  funext b; unfold mdel mput
  by_cases e : b = a
  · subst e; rw [if_pos rfl, h]
  · rw [if_neg e, if_neg e]
theorem mdel_mput2 {M : MHp} {a b : Addr} {o u : MO} (h : M b = none) (hab : a ≠ b) : mdel (mput (mput M b o) a u) b = mput M a u := by
  funext c; unfold mdel mput
  by_cases e : c = b
  · subst e; rw [if_pos rfl, if_neg (Ne.symm hab), h]
  · rw [if_neg e, if_neg e]
theorem mput_comm {M : MHp} {a b : Addr} {o u : MO} (h : a ≠ b) : mput (mput M a o) b u = mput (mput M b u) a o := by
  funext c; unfold mput
  by_cases e : c = b
  · subst e; rw [if_pos rfl, if_neg (Ne.symm h), if_pos rfl]
  · rw [if_neg e, if_neg e]
theorem m_ne {M : MHp} {a b : Addr} {o : MO} (h : M a = some o) (h' : M b = none) : a ≠ b := by
  intro e; subst e; rw [h] at h'; cases h'

mutual
inductive Dq (F : Hp) : V → PyData → Prop
  | non : Dq F .non .none
  | bl (b : Bool) : Dq F (.bl b) (.bool b)
  | int (i : Int) : Dq F (.int i) (.int i)
  | str (x : Str) : Dq F (.str x) (.str x)
  | lst {a : Addr} {xs : List V} {ds : List PyData} : F a = some (.lst xs) → DqA F xs ds → Dq F (.ref a) (.list ds)
  | tup {a : Addr} {xs : List V} {ds : List PyData} : F a = some (.tup xs) → DqA F xs ds → Dq F (.ref a) (.tuple ds)
inductive DqA (F : Hp) : List V → List PyData → Prop
  | nil : DqA F [] []
  | cons {v : V} {vs : List V} {d : PyData} {ds : List PyData} : Dq F v d → DqA F vs ds → DqA F (v :: vs) (d :: ds)
end

mutual
theorem Dq.mono {F F' : Hp} (e : Same F F') : ∀ (d : PyData) (v : V), Dq F v d → Dq F' v d
  | .none, _, .non => .non
  | .bool _, _, .bl b => .bl b
  | .int _, _, .int i => .int i
  | .str _, _, .str i => .str i
  | .list ds, _, .lst h r => .lst (e _ _ h) (DqA.mono e ds _ r)
  | .tuple ds, _, .tup h r => .tup (e _ _ h) (DqA.mono e ds _ r)
theorem DqA.mono {F F' : Hp} (e : Same F F') : ∀ (ds : List PyData) (vs : List V), DqA F vs ds → DqA F' vs ds
  | [], _, .nil => .nil
  | d :: ds, _, .cons h r => .cons (Dq.mono e d _ h) (DqA.mono e ds _ r)
end
mutual
theorem Dq.dp {K : PySem.W.Frag} {F H : Hp} (e : Same F H) : ∀ (d : PyData) (v : V), Dq F v d → Dp K H v d
  | .none, _, .non => .non
  | .bool _, _, .bl b => .bl b
  | .int _, _, .int i => .int i
  | .str _, _, .str i => .str i
  | .list ds, _, .lst h r => .lst (SqL.of (e _ _ h)) (DqA.dp e ds _ r)
  | .tuple ds, _, .tup h r => .tup (SqT.of (e _ _ h)) (DqA.dp e ds _ r)
theorem DqA.dp {K : PySem.W.Frag} {F H : Hp} (e : Same F H) : ∀ (ds : List PyData) (vs : List V), DqA F vs ds → DpAll K H vs ds
  | [], _, .nil => .nil
  | d :: ds, _, .cons h r => .cons (Dq.dp e d _ h) (DqA.dp e ds _ r)
end
theorem DqA.length {F : Hp} : ∀ {vs : List V} {ds : List PyData}, DqA F vs ds → vs.length = ds.length
  | _, _, .nil => rfl
  | _, _, .cons _ r => by simp [DqA.length r]
theorem DqA.get {F : Hp} : ∀ {vs : List V} {ds : List PyData} {i : Nat} {d : PyData}, DqA F vs ds → ds[i]? = some d → ∃ v, vs[i]? = some v ∧ Dq F v d
  | _, _, _, _, .nil, e => by simp at e
  | _, _, 0, _, .cons h _, e => by simp at e; subst e; exact ⟨_, rfl, h⟩
  | _, _, i + 1, d, .cons _ r, e => by
    obtain ⟨v, h1, h2⟩ := DqA.get (i := i) (d := d) r (by simpa using e)
    exact ⟨v, by simpa using h1, h2⟩
theorem DqA.append {F : Hp} : ∀ {vs ws : List V} {ds es : List PyData}, DqA F vs ds → DqA F ws es → DqA F (vs ++ ws) (ds ++ es)
  | _, _, _, _, .nil, s => s
  | _, _, _, _, .cons h r, s => .cons h (DqA.append r s)
theorem DqA.take {F : Hp} : ∀ {vs : List V} {ds : List PyData} (n : Nat), DqA F vs ds → DqA F (vs.take n) (ds.take n)
  | _, _, 0, _ => .nil
  | _, _, _ + 1, .nil => .nil
  | _, _, n + 1, .cons h r => .cons h (DqA.take n r)
theorem DqA.drop {F : Hp} : ∀ {vs : List V} {ds : List PyData} (n : Nat), DqA F vs ds → DqA F (vs.drop n) (ds.drop n)
  | _, _, 0, r => r
  | _, _, _ + 1, .nil => .nil
  | _, _, n + 1, .cons _ r => DqA.drop n r
theorem DqA.snoc {F : Hp} {vs : List V} {ds : List PyData} {v : V} {d : PyData} (h : DqA F vs ds) (h1 : Dq F v d) : DqA F (vs ++ [v]) (ds ++ [d]) := h.append (.cons h1 .nil)
theorem DqA.reverse {F : Hp} : ∀ {vs : List V} {ds : List PyData}, DqA F vs ds → DqA F vs.reverse ds.reverse
  | _, _, .nil => .nil
  | _, _, .cons h r => by rw [List.reverse_cons, List.reverse_cons]; exact (DqA.reverse r).snoc h

/-! data of the module own top: a constant tuple -/
mutual
inductive Cq (K : PySem.W.Frag) : V → PyData → Prop
  | non : Cq K .non .none
  | bl (b : Bool) : Cq K (.bl b) (.bool b)
  | int (i : Int) : Cq K (.int i) (.int i)
  | str (x : Str) : Cq K (.str x) (.str x)
  | tup {a : Addr} {xs : List V} {ds : List PyData} {o : Obj} {its : Array Value} {n : Nat} : K.lookup a = some o → o.cls = .type "tuple" → o.data = .seq its n → its.size ≤ sizeLine → Vals xs its.toList → CqA K xs ds → Cq K (.ref a) (.tuple ds)
inductive CqA (K : PySem.W.Frag) : List V → List PyData → Prop
  | nil : CqA K [] []
  | cons {v : V} {vs : List V} {d : PyData} {ds : List PyData} : Cq K v d → CqA K vs ds → CqA K (v :: vs) (d :: ds)
end
mutual
theorem Cq.dp {K : PySem.W.Frag} {H : Hp} : ∀ (d : PyData) (v : V), Cq K v d → Dp K H v d
  | .none, _, .non => .non
  | .bool _, _, .bl b => .bl b
  | .int _, _, .int i => .int i
  | .str _, _, .str i => .str i
  | .tuple ds, _, .tup h1 h2 h3 h4 h5 r => .tup (.inr ⟨_, _, _, h1, h2, h3, h4, h5⟩) (CqA.dp ds _ r)
theorem CqA.dp {K : PySem.W.Frag} {H : Hp} : ∀ (ds : List PyData) (vs : List V), CqA K vs ds → DpAll K H vs ds
  | [], _, .nil => .nil
  | d :: ds, _, .cons h r => .cons (Cq.dp d _ h) (CqA.dp ds _ r)
end
theorem CqA.length {K : PySem.W.Frag} : ∀ {vs : List V} {ds : List PyData}, CqA K vs ds → vs.length = ds.length
  | _, _, .nil => rfl
  | _, _, .cons _ r => by simp [CqA.length r]
/-- the fields of an instance that stays, the entries of a dict that stays -/
abbrev FsR (F : Hp) : List (Str × V) → List (Str × PyData) → Prop := Paired fun (p : Str × V) (q : Str × PyData) => p.1 = q.1 ∧ Dq F p.2 q.2
abbrev KsR (F : Hp) : List (List Key × V) → List (List Key × PyData) → Prop := Paired fun (p : List Key × V) (q : List Key × PyData) => p.1 = q.1 ∧ Dq F p.2 q.2
theorem FsR.mono {F F' : Hp} (e : Same F F') {gs : List (Str × V)} {fs : List (Str × PyData)} (h : FsR F gs fs) : FsR F' gs fs := Paired.mapP h fun _ _ q => ⟨q.1, Dq.mono e _ _ q.2⟩
theorem KsR.mono {F F' : Hp} (e : Same F F') {gs : List (List Key × V)} {fs : List (List Key × PyData)} (h : KsR F gs fs) : KsR F' gs fs := Paired.mapP h fun _ _ q => ⟨q.1, Dq.mono e _ _ q.2⟩
theorem sq_same {K : PySem.W.Frag} {F F' : Hp} (e : Same F F') {a : Addr} {xs : List V} (q : SqL K F a xs) : SqL K F' a xs := by
  rcases q with (q | ⟨o, q⟩) | q
  · exact .inl (.inl (e _ _ q))
  · exact .inl (.inr ⟨o, e _ _ q⟩)
  · exact .inr q
mutual
/-- a value and a slot within a tuple -/
inductive TtR (K : PySem.W.Frag) (F : Hp) : V → Sl → Prop
  | n {v : V} : TtR K F v .n
  | d {v : V} {x : PyData} : Dq F v x → TtR K F v (.d x)
  | m {a : Addr} : TtR K F (.ref a) (.m a)
  | s {a : Addr} {ns : List Int} : SqL K F a (ns.map V.int) → TtR K F (.ref a) (.s ns)
  | t {a : Addr} {vs : List V} {ss : List Sl} : F a = some (.tup vs) → TtA K F vs ss → TtR K F (.ref a) (.t ss)
  | c {v : V} {x : PyData} : Cq K v x → TtR K F v (.c x)
  | o {a C dx : Addr} {gs : List (Str × V)} {fs : List (Str × PyData)} : F a = some (.ins C dx gs) → FsR F gs fs → TtR K F (.ref a) (.o C fs)
  | f {a : Addr} {kws : List (List Key × V)} {kvs : List (List Key × PyData)} : F a = some (.dT kws) → KsR F kws kvs → TtR K F (.ref a) (.f kvs)
inductive TtA (K : PySem.W.Frag) (F : Hp) : List V → List Sl → Prop
  | nil : TtA K F [] []
  | cons {v : V} {vs : List V} {s : Sl} {ss : List Sl} : TtR K F v s → TtA K F vs ss → TtA K F (v :: vs) (s :: ss)
end
mutual
theorem TtR.mono {K : PySem.W.Frag} {F F' : Hp} (e : Same F F') : ∀ (s : Sl) (v : V), TtR K F v s → TtR K F' v s
  | .n, _, .n => .n
  | .d x, v, .d h => .d (Dq.mono e x v h)
  | .m _, _, .m => .m
  | .s _, _, .s h => .s (sq_same e h)
  | .t ss, _, .t h r => .t (e _ _ h) (TtA.mono e ss _ r)
  | .c _, _, .c h => .c h
  | .o _ _, _, .o h r => .o (e _ _ h) (r.mono e)
  | .f _, _, .f h r => .f (e _ _ h) (r.mono e)
theorem TtA.mono {K : PySem.W.Frag} {F F' : Hp} (e : Same F F') : ∀ (ss : List Sl) (vs : List V), TtA K F vs ss → TtA K F' vs ss
  | [], _, .nil => .nil
  | s :: ss, _, .cons h r => .cons (TtR.mono e s _ h) (TtA.mono e ss _ r)
end
/-- a value and a slot -/
def SlR (K : PySem.W.Frag) (F : Hp) (v : V) : Sl → Prop
  | .n => True
  | .d x => Dq F v x
  | .m a => v = .ref a
  | .s ns => ∃ a, v = .ref a ∧ SqL K F a (ns.map V.int)
  | .t ss => ∃ a vs, v = .ref a ∧ F a = some (.tup vs) ∧ TtA K F vs ss
  | .c x => Cq K v x
  | .o C fs => ∃ a dx gs, v = .ref a ∧ F a = some (.ins C dx gs) ∧ FsR F gs fs
  | .f kvs => ∃ a kws, v = .ref a ∧ F a = some (.dT kws) ∧ KsR F kws kvs
def OR (K : PySem.W.Frag) (F : Hp) (o : Option V) (s : Sl) : Prop := match s with
  | .n => True
  | .d x => ∃ v, o = some v ∧ Dq F v x
  | .m a => o = some (.ref a)
  | .s ns => ∃ a, o = some (.ref a) ∧ SqL K F a (ns.map V.int)
  | .t ss => ∃ a vs, o = some (.ref a) ∧ F a = some (.tup vs) ∧ TtA K F vs ss
  | .c x => ∃ v, o = some v ∧ Cq K v x
  | .o C fs => ∃ a dx gs, o = some (.ref a) ∧ F a = some (.ins C dx gs) ∧ FsR F gs fs
  | .f kvs => ∃ a kws, o = some (.ref a) ∧ F a = some (.dT kws) ∧ KsR F kws kvs
abbrev SlsR (K : PySem.W.Frag) (F : Hp) : List V → List Sl → Prop := Paired (SlR K F)
abbrev Env (K : PySem.W.Frag) (F : Hp) : List (Option V) → List Sl → Prop := Paired (OR K F)
theorem SlR.mono {K : PySem.W.Frag} {F F' : Hp} (e : Same F F') {v : V} : ∀ {s : Sl}, SlR K F v s → SlR K F' v s
  | .n, _ => trivial
  | .d x, h => Dq.mono e x v h
  | .m _, h => h
  | .s _, ⟨a, h, q⟩ => ⟨a, h, sq_same e q⟩
  | .t ss, ⟨a, vs, h, q, r⟩ => ⟨a, vs, h, e _ _ q, TtA.mono e ss vs r⟩
  | .c _, h => h
  | .o _ _, ⟨a, dx, gs, h, q, r⟩ => ⟨a, dx, gs, h, e _ _ q, r.mono e⟩
  | .f _, ⟨a, kws, h, q, r⟩ => ⟨a, kws, h, e _ _ q, r.mono e⟩
theorem OR.mono {K : PySem.W.Frag} {F F' : Hp} (e : Same F F') {v : Option V} : ∀ {s : Sl}, OR K F v s → OR K F' v s
  | .n, _ => trivial
  | .d x, ⟨v, h1, h2⟩ => ⟨v, h1, Dq.mono e x v h2⟩
  | .m _, h => h
  | .s _, ⟨a, h, q⟩ => ⟨a, h, sq_same e q⟩
  | .t ss, ⟨a, vs, h, q, r⟩ => ⟨a, vs, h, e _ _ q, TtA.mono e ss vs r⟩
  | .c _, h => h
  | .o _ _, ⟨a, dx, gs, h, q, r⟩ => ⟨a, dx, gs, h, e _ _ q, r.mono e⟩
  | .f _, ⟨a, kws, h, q, r⟩ => ⟨a, kws, h, e _ _ q, r.mono e⟩
theorem SlsR.mono {K : PySem.W.Frag} {F F' : Hp} (e : Same F F') {vs : List V} {ss : List Sl} (h : SlsR K F vs ss) : SlsR K F' vs ss := Paired.mapP h fun _ _ q => q.mono e
theorem Env.mono {K : PySem.W.Frag} {F F' : Hp} (e : Same F F') {vs : List (Option V)} {ss : List Sl} (h : Env K F vs ss) : Env K F' vs ss := Paired.mapP h fun _ _ q => q.mono e
theorem OR.some {K : PySem.W.Frag} {F : Hp} {v : V} : ∀ {s : Sl}, SlR K F v s → OR K F (.some v) s
  | .n, _ => trivial
  | .d _, h => ⟨v, rfl, h⟩
  | .m _, h => congrArg _ h
  | .s _, ⟨a, h, q⟩ => ⟨a, congrArg _ h, q⟩
  | .t _, ⟨a, vs, h, q⟩ => ⟨a, vs, congrArg _ h, q⟩
  | .c _, h => ⟨v, rfl, h⟩
  | .o _ _, ⟨a, dx, gs, h, q⟩ => ⟨a, dx, gs, congrArg _ h, q⟩
  | .f _, ⟨a, kws, h, q⟩ => ⟨a, kws, congrArg _ h, q⟩
theorem TtR.slr {K : PySem.W.Frag} {F : Hp} {v : V} {s : Sl} (h : TtR K F v s) : SlR K F v s := by
  cases h with
  | n => trivial
  | d h => exact h
  | m => rfl
  | s h => exact ⟨_, rfl, h⟩
  | t h r => exact ⟨_, _, rfl, h, r⟩
  | c h => exact h
  | o h r => exact ⟨_, _, _, rfl, h, r⟩
  | f h r => exact ⟨_, _, rfl, h, r⟩
theorem SlR.tt {K : PySem.W.Frag} {F : Hp} {v : V} : ∀ {s : Sl}, SlR K F v s → TtR K F v s
  | .n, _ => .n
  | .d _, h => .d h
  | .m a, h => by have h : v = .ref a := h; subst h; exact .m
  | .s _, ⟨_, h, q⟩ => by subst h; exact .s q
  | .t _, ⟨_, _, h, q, r⟩ => by subst h; exact .t q r
  | .c _, h => .c h
  | .o _ _, ⟨_, _, _, h, q, r⟩ => by subst h; exact .o q r
  | .f _, ⟨_, _, h, q, r⟩ => by subst h; exact .f q r
theorem tta_sls {K : PySem.W.Frag} {F : Hp} : ∀ {vs : List V} {ss : List Sl}, TtA K F vs ss → SlsR K F vs ss
  | _, _, .nil => .nil
  | _, _, .cons h r => .cons h.slr (tta_sls r)
theorem sls_tta {K : PySem.W.Frag} {F : Hp} : ∀ {vs : List V} {ss : List Sl}, SlsR K F vs ss → TtA K F vs ss
  | _, _, .nil => .nil
  | _, _, .cons h r => .cons h.tt (sls_tta r)
theorem Paired.get' {α β : Type} {R : α → β → Prop} : ∀ {xs : List α} {ys : List β} {i : Nat} {y : β}, Paired R xs ys → ys[i]? = some y → ∃ x, xs[i]? = some x ∧ R x y
  | _, _, _, _, .nil, e => by simp at e
  | _, _, 0, _, .cons h _, e => by simp at e; subst e; exact ⟨_, rfl, h⟩
  | _, _, i + 1, y, .cons _ r, e => by
    obtain ⟨v, h1, h2⟩ := Paired.get' (i := i) (y := y) r (by simpa using e)
    exact ⟨v, by simpa using h1, h2⟩
theorem Paired.set' {α β : Type} {R : α → β → Prop} {x : α} {y : β} (h : R x y) : ∀ {xs : List α} {ys : List β} (i : Nat), Paired R xs ys → Paired R (xs.set i x) (ys.set i y)
  | _, _, _, .nil => .nil
  | _, _, 0, .cons _ r => .cons h r
  | _, _, i + 1, .cons q r => .cons q (Paired.set' h i r)
theorem Paired.len' {α β : Type} {R : α → β → Prop} : ∀ {xs : List α} {ys : List β}, Paired R xs ys → xs.length = ys.length
  | _, _, .nil => rfl
  | _, _, .cons _ r => by simp [Paired.len' r]
theorem Paired.app' {α β : Type} {R : α → β → Prop} : ∀ {xs xs' : List α} {ys ys' : List β}, Paired R xs ys → Paired R xs' ys' → Paired R (xs ++ xs') (ys ++ ys')
  | _, _, _, _, .nil, s => s
  | _, _, _, _, .cons h r, s => .cons h (Paired.app' r s)
theorem Paired.take' {α β : Type} {R : α → β → Prop} : ∀ {xs : List α} {ys : List β} (n : Nat), Paired R xs ys → Paired R (xs.take n) (ys.take n)
  | _, _, 0, _ => .nil
  | _, _, _ + 1, .nil => .nil
  | _, _, n + 1, .cons h r => .cons h (Paired.take' n r)
theorem Paired.drop' {α β : Type} {R : α → β → Prop} : ∀ {xs : List α} {ys : List β} (n : Nat), Paired R xs ys → Paired R (xs.drop n) (ys.drop n)
  | _, _, 0, r => r
  | _, _, _ + 1, .nil => .nil
  | _, _, n + 1, .cons _ r => Paired.drop' n r
theorem Paired.rev' {α β : Type} {R : α → β → Prop} : ∀ {xs : List α} {ys : List β}, Paired R xs ys → Paired R xs.reverse ys.reverse
  | _, _, .nil => .nil
  | _, _, .cons h r => by rw [List.reverse_cons, List.reverse_cons]; exact Paired.app' (Paired.rev' r) (.cons h .nil)
/-- slots that are all data -/
theorem sls_data {K : PySem.W.Frag} {F : Hp} : ∀ {vs : List V} {ds : List PyData}, SlsR K F vs (ds.map Sl.d) → DqA F vs ds
  | _, [], .nil => .nil
  | _, _ :: _, .cons h r => .cons h (sls_data r)
theorem data_sls {K : PySem.W.Frag} {F : Hp} : ∀ {vs : List V} {ds : List PyData}, DqA F vs ds → SlsR K F vs (ds.map Sl.d)
  | _, _, .nil => .nil
  | _, _, .cons h r => .cons h (data_sls r)

def MOk (K : PySem.W.Frag) (F H : Hp) (a : Addr) : MO → Prop
  | .lst ss => ∃ vs, H a = some (.lst vs) ∧ SlsR K F vs ss
  | .dK kvs => ∃ kws, H a = some (.dK kws) ∧ Paired (fun (p : Key × V) (q : Key × Sl) => p.1 = q.1 ∧ SlR K F p.2 q.2) kws kvs
  | .dT kvs => ∃ kws, H a = some (.dT kws) ∧ Paired (fun (p : List Key × V) (q : List Key × Sl) => p.1 = q.1 ∧ SlR K F p.2 q.2) kws kvs
  | .lK od kws kvs => H a = some (.frz od (.dK kws)) ∧ Paired (fun (p : Key × V) (q : Key × Sl) => p.1 = q.1 ∧ SlR K F p.2 q.2) kws kvs
  | .lT od kws kvs => H a = some (.frz od (.dT kws)) ∧ Paired (fun (p : List Key × V) (q : List Key × Sl) => p.1 = q.1 ∧ SlR K F p.2 q.2) kws kvs
  | .ins C dx fs => ∃ gs, H a = some (.ins C dx gs) ∧ Paired (fun (p : Str × V) (q : Str × Sl) => p.1 = q.1 ∧ SlR K F p.2 q.2) gs fs
  | .own x => H a = some (.own x)
theorem MOk.stay {K : PySem.W.Frag} {F F' H H' : Hp} {a : Addr} (e : Same F F') (h : ∀ o, H a = some o → H' a = some o) : ∀ {o : MO}, MOk K F H a o → MOk K F' H' a o
  | .lst _, ⟨vs, q, r⟩ => ⟨vs, h _ q, r.mono e⟩
  | .dK _, ⟨vs, q, r⟩ => ⟨vs, h _ q, Paired.mapP r fun _ _ z => ⟨z.1, z.2.mono e⟩⟩
  | .dT _, ⟨vs, q, r⟩ => ⟨vs, h _ q, Paired.mapP r fun _ _ z => ⟨z.1, z.2.mono e⟩⟩
  | .lK _ _ _, ⟨q, r⟩ => ⟨h _ q, Paired.mapP r fun _ _ z => ⟨z.1, z.2.mono e⟩⟩
  | .lT _ _ _, ⟨q, r⟩ => ⟨h _ q, Paired.mapP r fun _ _ z => ⟨z.1, z.2.mono e⟩⟩
  | .ins _ _ _, ⟨vs, q, r⟩ => ⟨vs, h _ q, Paired.mapP r fun _ _ z => ⟨z.1, z.2.mono e⟩⟩
  | .own _, q => h _ q
/-- the heap: F the data, M the mutable objects -/
structure Hs (K : PySem.W.Frag) (F : Hp) (M : MHp) (H : Hp) : Prop where
  ex : Same F H
  ap : ∀ a o, M a = some o → F a = none
  ok : ∀ a o, M a = some o → MOk K F H a o
theorem same_new {H : Hp} {p : Addr} {o : HO} (h : H p = none) : Same H (upd H p o) := fun b x e => by
  rw [upd_ne (ne_of_none e h)]
  exact e
theorem Same.refl (H : Hp) : Same H H := fun _ _ h => h
section
variable {K : PySem.W.Frag} {F F' H H' : Hp} {M M' : MHp} {a p : Addr}
theorem Hs.in_H {o : MO} (h : Hs K F M H) (e : M a = some o) : ∃ u, H a = some u := by
  have z := h.ok _ _ e
  cases o with
  | lst ss => obtain ⟨vs, z, _⟩ := z; exact ⟨_, z⟩
  | lK _ _ _ => obtain ⟨q, _⟩ := h.ok _ _ e; exact ⟨_, q⟩
  | lT _ _ _ => obtain ⟨q, _⟩ := h.ok _ _ e; exact ⟨_, q⟩
  | dK ss => obtain ⟨vs, z, _⟩ := z; exact ⟨_, z⟩
  | dT ss => obtain ⟨vs, z, _⟩ := z; exact ⟨_, z⟩
  | ins _ _ ss => obtain ⟨vs, z, _⟩ := z; exact ⟨_, z⟩
  | own ss => exact ⟨_, z⟩
theorem Hs.freeF (h : Hs K F M H) (hp : H p = none) : F p = none := by
  cases q : F p with
  | none => rfl
  | some u => have := h.ex _ _ q; rw [hp] at this; cases this
/-- a new object of data -/
theorem Hs.newD {o : HO} (h : Hs K F M H) (hp : H p = none) : Same F (upd F p o) ∧ Hs K (upd F p o) M (upd H p o) := by
  have fp : F p = none := h.freeF hp
  have e1 : Same F (upd F p o) := same_new fp
  refine ⟨e1, fun b u q => ?_, fun b u q => ?_, fun b u q => ?_⟩
  · by_cases e : b = p
    · subst e; rw [upd_same] at q ⊢; exact q
    · rw [upd_ne e] at q ⊢; exact h.ex _ _ q
  · obtain ⟨z, hz⟩ := h.in_H q
    rw [upd_ne (ne_of_none hz hp)]; exact h.ap _ _ q
  · refine (h.ok _ _ q).stay e1 fun o' q' => ?_
    rw [upd_ne (ne_of_none q' hp)]; exact q'
/-- the heap grows, nothing new is told -/
theorem Hs.grow (h : Hs K F M H) (e : Same H H') : Hs K F M H' :=
  ⟨fun b u q => e _ _ (h.ex _ _ q), h.ap, fun b u q => (h.ok _ _ q).stay (Same.refl F) (e b)⟩
/-- an object is written, or a new one laid: a is free of data, and all but it stays -/
theorem Hs.write {o : MO} (h : Hs K F M H) (hF : F a = none) (k : ∀ b u, b ≠ a → H b = some u → H' b = some u) (new : MOk K F H' a o) : Hs K F (mput M a o) H' := by
  refine ⟨fun b u q => k b u (ne_of_none q hF) (h.ex _ _ q), fun b u q => ?_, fun b u q => ?_⟩
  · by_cases e : b = a
    · subst e; exact hF
    · rw [mput_ne e] at q; exact h.ap _ _ q
  · by_cases e : b = a
    · subst e; rw [mput_same] at q; cases q; exact new
    · rw [mput_ne e] at q
      exact (h.ok _ _ q).stay (Same.refl F) fun o' z => k b o' e z
theorem Hs.newM {o : MO} {u : HO} (h : Hs K F M H) (hp : H p = none) (new : MOk K F (upd H p u) p o) : Hs K F (mput M p o) (upd H p u) :=
  h.write (h.freeF hp) (fun b x hb e => by rw [upd_ne hb]; exact e) new
theorem Hs.set {o : MO} {u : HO} {o0 : MO} (h : Hs K F M H) (hm : M a = some o0) (new : MOk K F (upd H a u) a o) : Hs K F (mput M a o) (upd H a u) :=
  h.write (h.ap _ _ hm) (fun b x hb e => by rw [upd_ne hb]; exact e) new
/-- a mutable object is told no more -/
theorem Hs.forget (h : Hs K F M H) : Hs K F (mdel M a) H := by
  refine ⟨h.ex, fun b u q => ?_, fun b u q => ?_⟩
  · by_cases e : b = a
    · subst e; rw [mdel_same] at q; cases q
    · rw [mdel_ne e] at q; exact h.ap _ _ q
  · by_cases e : b = a
    · subst e; rw [mdel_same] at q; cases q
    · rw [mdel_ne e] at q; exact h.ok _ _ q
/-- a mutable object becomes data -/
theorem Hs.freeze {o : MO} {u : HO} (h : Hs K F M H) (hm : M a = some o) (hH : H a = some u) : Same F (upd F a u) ∧ Hs K (upd F a u) (mdel M a) H := by
  have fa := h.ap _ _ hm
  have e1 : Same F (upd F a u) := same_new fa
  refine ⟨e1, fun b x q => ?_, fun b x q => ?_, fun b x q => ?_⟩
  · by_cases e : b = a
    · subst e; rw [upd_same] at q; rw [← q]; exact hH
    · rw [upd_ne e] at q; exact h.ex _ _ q
  · by_cases e : b = a
    · subst e; rw [mdel_same] at q; cases q
    · rw [mdel_ne e] at q; rw [upd_ne e]; exact h.ap _ _ q
  · by_cases e : b = a
    · subst e; rw [mdel_same] at q; cases q
    · rw [mdel_ne e] at q; exact (h.ok _ _ q).stay e1 fun _ z => z
theorem Hs.freeM (h : Hs K F M H) (hp : H p = none) : M p = none := by
  cases q : M p with
  | none => rfl
  | some o => obtain ⟨u, z⟩ := h.in_H q; rw [hp] at z; cases z
/-- less is told -/
def Sub (M' M : MHp) : Prop := ∀ a o, M' a = some o → M a = some o
theorem Sub.refl (M : MHp) : Sub M M := fun _ _ h => h
theorem Sub.trans {M M1 M2 : MHp} (h : Sub M M1) (h' : Sub M1 M2) : Sub M M2 := fun a o e => h' a o (h a o e)
theorem Sub.put {M M' : MHp} {p : Addr} {o : MO} (h : Sub M M') (hp : M' p = none) : Sub M (mput M' p o) := fun a u e => by rw [mput_ne (m_ne (h a u e) hp)]; exact h a u e
theorem Sub.put0 {M M' : MHp} {p : Addr} {o : MO} (h : Sub M M') (hp : M p = none) : Sub M (mput M' p o) := fun a u e => by rw [mput_ne (m_ne e hp)]; exact h a u e
theorem Sub.both {M M' : MHp} {p : Addr} {o : MO} (h : Sub M M') : Sub (mput M p o) (mput M' p o) := fun a u e => by
  by_cases z : a = p
  · subst z; rw [mput_same] at e ⊢; exact e
  · rw [mput_ne z] at e ⊢; exact h a u e
theorem Sub.del {M : MHp} {p : Addr} : Sub (mdel M p) M := fun a u e => by
  by_cases z : a = p
  · subst z; rw [mdel_same] at e; cases e
  · rw [mdel_ne z] at e; exact e
theorem Sub.none {M M' : MHp} {p : Addr} (h : Sub M M') (hp : M' p = none) : M p = none := by
  cases q : M p with
  | none => rfl
  | some o => rw [h _ _ q] at hp; cases hp
theorem Hs.sub (h : Hs K F M H) (e : Sub M' M) : Hs K F M' H := ⟨h.ex, fun a o q => h.ap a o (e a o q), fun a o q => h.ok a o (e a o q)⟩
theorem Hs.lst {ss : List Sl} (h : Hs K F M H) (e : M a = some (.lst ss)) : ∃ vs, H a = some (.lst vs) ∧ SlsR K F vs ss := h.ok _ _ e
/-- a tuple that is seen -/
theorem MOk.not_tup {o : MO} {vs : List V} (h : MOk K F H a o) (e : H a = some (.tup vs)) : False := by
  cases o with
  | lst _ => obtain ⟨_, q, _⟩ := h; rw [e] at q; cases q
  | dK _ => obtain ⟨_, q, _⟩ := h; rw [e] at q; cases q
  | dT _ => obtain ⟨_, q, _⟩ := h; rw [e] at q; cases q
  | lK _ _ _ => obtain ⟨q, _⟩ := h; rw [e] at q; cases q
  | lT _ _ _ => obtain ⟨q, _⟩ := h; rw [e] at q; cases q
  | ins _ _ _ => obtain ⟨_, q, _⟩ := h; rw [e] at q; cases q
  | own _ => have q : H a = some (.own _) := h; rw [e] at q; cases q
theorem Hs.learn {vs : List V} (h : Hs K F M H) (e : H a = some (.tup vs)) : ∃ F', Same F F' ∧ Hs K F' M H ∧ F' a = some (.tup vs) := by
  have e1 : Same F (upd F a (.tup vs)) := fun b o q => by
    by_cases hb : b = a
    · subst hb; rw [upd_same]; have := h.ex _ _ q; rw [e] at this; exact this
    · rw [upd_ne hb]; exact q
  refine ⟨_, e1, ⟨fun b o q => ?_, fun b o q => ?_, fun b o q => (h.ok b o q).stay e1 fun _ z => z⟩, upd_same⟩
  · by_cases hb : b = a
    · subst hb; rw [upd_same] at q; rw [e]; exact q
    · rw [upd_ne hb] at q; exact h.ex _ _ q
  · have hb : b ≠ a := fun z => by subst z; exact (h.ok _ _ q).not_tup e
    rw [upd_ne hb]; exact h.ap _ _ q
end
end DL
set_option Elab.async false
set_option autoImplicit false
set_option linter.all false
set_option maxRecDepth 100000
set_option maxHeartbeats 2000000
namespace DL
open PySem PySem.Spec PyProof.Rows L2

/-! ### transformers over slots and mutable objects; their lifts to readings -/
abbrev DP := MHp → Sl → Prop
abbrev DT := MHp → List Sl → DP → Prop
abbrev DTT := MHp → List Sl → (MHp → Bool → Prop) → Prop
abbrev DA := MHp → List Sl → (MHp → List Sl → Prop) → Prop
/-- what follows a value -/
def Fol (K : PySem.W.Frag) (F : Hp) (post : DP) (Q : VK) : Prop := ∀ M' s F' H' v, post M' s → Same F F' → Hs K F' M' H' → SlR K F' v s → Q v H'
def FolT (K : PySem.W.Frag) (F : Hp) (post : MHp → Bool → Prop) (Q : Bool → Hp → Prop) : Prop := ∀ M' b F' H', post M' b → Same F F' → Hs K F' M' H' → Q b H'
def FolA (K : PySem.W.Frag) (F : Hp) (post : MHp → List Sl → Prop) (Q : List V → Hp → Prop) : Prop := ∀ M' ss F' H' vs, post M' ss → Same F F' → Hs K F' M' H' → SlsR K F' vs ss → Q vs H'
theorem Fol.mono {K : PySem.W.Frag} {F F1 : Hp} {post : DP} {Q : VK} (h : Fol K F post Q) (e : Same F F1) : Fol K F1 post Q := fun M' s F' H' v p e' => h M' s F' H' v p (e.trans e')
theorem FolT.mono {K : PySem.W.Frag} {F F1 : Hp} {post : MHp → Bool → Prop} {Q : Bool → Hp → Prop} (h : FolT K F post Q) (e : Same F F1) : FolT K F1 post Q := fun M' s F' H' p e' => h M' s F' H' p (e.trans e')
def lift (K : PySem.W.Frag) (τ : DT) : TE := fun σ H Q => ∃ F M es post, Hs K F M H ∧ Env K F σ es ∧ τ M es post ∧ Fol K F post Q
def liftT (K : PySem.W.Frag) (τ : DTT) : TT := fun σ H Q => ∃ F M es post, Hs K F M H ∧ Env K F σ es ∧ τ M es post ∧ FolT K F post Q
def liftA (K : PySem.W.Frag) (τ : DA) : TA := fun σ H Q => ∃ F M es post, Hs K F M H ∧ Env K F σ es ∧ τ M es post ∧ FolA K F post Q
abbrev PD (X : Cx) (e : Expr) (τ : DT) : Prop := PE X e (lift X.K τ)
abbrev PDT (X : Cx) (e : Expr) (τ : DTT) : Prop := PT X e (liftT X.K τ)
abbrev PDW (X : Cx) (e : Expr) (τ : DTT) : Prop := PW X e (liftT X.K τ)
abbrev PDA (X : Cx) (es : List Expr) (τ : DA) : Prop := PA X es (liftA X.K τ)
theorem peI {X : Cx} {e : Expr} {t t' : TE} (h : PE X e t) (hi : ∀ σ H Q, t' σ H Q → t σ H Q) : PE X e t' := ⟨fun pins s σ H Q I hq => h.run pins s σ H Q I (hi σ H Q hq)⟩
theorem ptI {X : Cx} {e : Expr} {t t' : TT} (h : PT X e t) (hi : ∀ σ H Q, t' σ H Q → t σ H Q) : PT X e t' := ⟨fun pins s σ H Q I hq => h.run pins s σ H Q I (hi σ H Q hq)⟩
theorem pwI {X : Cx} {e : Expr} {t t' : TT} (h : PW X e t) (hi : ∀ σ H Q, t' σ H Q → t σ H Q) : PW X e t' := ⟨fun wh pins s σ H Q I hq => h.run wh pins s σ H Q I (hi σ H Q hq)⟩
theorem paI {X : Cx} {e : List Expr} {t t' : TA} (h : PA X e t) (hi : ∀ σ H Q, t' σ H Q → t σ H Q) : PA X e t' := ⟨fun pos pins s σ H Q I hq => h.run pos pins s σ H Q I (hi σ H Q hq)⟩
theorem psI {X : Cx} {st : Stmt} {t t' : L2.TS} (h : PS X st t) (hi : ∀ D σ H, t' D σ H → t D σ H) : PS X st t' := ⟨fun pins s σ H D I hq => h.run pins s σ H D I (hi D σ H hq)⟩
theorem pssI {X : Cx} {st : List Stmt} {t t' : L2.TS} (h : PSs X st t) (hi : ∀ D σ H, t' D σ H → t D σ H) : PSs X st t' := ⟨fun pins s σ H D I hq => h.run pins s σ H D I (hi D σ H hq)⟩

/-! ### names and constants -/
def dVs (o : Option Sl) (M : MHp) (post : DP) : Prop := match o with
  | some .n => False
  | some s => post M s
  | none => False
def dV (i : Nat) : DT := fun M es post => dVs es[i]? M post
/-- the name's list becomes data -/
def dVF (i : Nat) : DT := fun M es post => ∃ a ds, es[i]? = some (.m a) ∧ M a = some (.lst (ds.map Sl.d)) ∧ post (mdel M a) (.d (.list ds))
def dC (x : PyData) : DT := fun M _ post => post M (.d x)
section
variable {X : Cx} {e a b c : Expr} {τ τa τb τc : DT} {pos : Pos}
theorem or_var {K : PySem.W.Frag} {F : Hp} {σ : L2.St} {es : List Sl} {i : Nat} {s : Sl} (h : Env K F σ es) (e : es[i]? = some s) (hn : s ≠ .n) : ∃ v, σ[i]? = some (some v) ∧ SlR K F v s := by
  obtain ⟨o, h1, h2⟩ := Paired.get' h e
  cases s with
  | n => exact absurd rfl hn
  | d x => obtain ⟨v, rfl, h3⟩ := h2; exact ⟨v, h1, h3⟩
  | m a => have h2 : o = some (.ref a) := h2; subst h2; exact ⟨_, h1, rfl⟩
  | s ns => obtain ⟨a, rfl, h3⟩ := h2; exact ⟨_, h1, a, rfl, h3⟩
  | t ss => obtain ⟨a, vs, rfl, h3⟩ := h2; exact ⟨_, h1, a, vs, rfl, h3⟩
  | c x => obtain ⟨v, rfl, h3⟩ := h2; exact ⟨v, h1, h3⟩
  | o C fs => obtain ⟨a, dx, gs, rfl, h3⟩ := h2; exact ⟨_, h1, a, dx, gs, rfl, h3⟩
  | f kvs => obtain ⟨a, kws, rfl, h3⟩ := h2; exact ⟨_, h1, a, kws, rfl, h3⟩
theorem pd_of_var {i : Nat} (h : PE X e (tVar i)) : PD X e (dV i) := peI h fun σ H Q hq => by
  obtain ⟨F, M, es, post, hs, he, ht, hf⟩ := hq
  unfold dV dVs at ht
  cases hc : es[i]? with
  | none => rw [hc] at ht; exact ht.elim
  | some s =>
    rw [hc] at ht
    cases s with
    | n => exact ht.elim
    | d x => obtain ⟨v, h1, h2⟩ := or_var he hc (by simp); exact ⟨v, h1, hf _ _ F H v ht (Same.refl F) hs h2⟩
    | m x => obtain ⟨v, h1, h2⟩ := or_var he hc (by simp); exact ⟨v, h1, hf _ _ F H v ht (Same.refl F) hs h2⟩
    | s x => obtain ⟨v, h1, h2⟩ := or_var he hc (by simp); exact ⟨v, h1, hf _ _ F H v ht (Same.refl F) hs h2⟩
    | t x => obtain ⟨v, h1, h2⟩ := or_var he hc (by simp); exact ⟨v, h1, hf _ _ F H v ht (Same.refl F) hs h2⟩
    | c x => obtain ⟨v, h1, h2⟩ := or_var he hc (by simp); exact ⟨v, h1, hf _ _ F H v ht (Same.refl F) hs h2⟩
    | o C x => obtain ⟨v, h1, h2⟩ := or_var he hc (by simp); exact ⟨v, h1, hf _ _ F H v ht (Same.refl F) hs h2⟩
    | f x => obtain ⟨v, h1, h2⟩ := or_var he hc (by simp); exact ⟨v, h1, hf _ _ F H v ht (Same.refl F) hs h2⟩
theorem pd_of_varF {i : Nat} (h : PE X e (tVar i)) : PD X e (dVF i) := peI h fun σ H Q hq => by
  obtain ⟨F, M, es, post, hs, he, ⟨a, ds, h1, h2, h3⟩, hf⟩ := hq
  obtain ⟨v, h4, h5⟩ := or_var he h1 (by simp)
  have h5 : v = .ref a := h5
  subst h5
  obtain ⟨vs, h6, h7⟩ := hs.lst h2
  obtain ⟨e1, hs'⟩ := hs.freeze h2 h6
  exact ⟨_, h4, hf _ _ _ H _ h3 e1 hs' (.lst upd_same ((sls_data h7).mono e1))⟩
theorem pd_const {v : V} {x : PyData} (h : PE X e (tC v)) (hv : Dq (fun _ => none) v x) : PD X e (dC x) := peI h fun σ H Q hq => by
  obtain ⟨F, M, es, post, hs, he, ht, hf⟩ := hq
  exact hf _ _ F H v ht (Same.refl F) hs (Dq.mono (fun _ _ z => by cases z) x v hv)
theorem pd_int {i j} : PD X (.Constant (.int i) j pos) (dC (.int i)) := pd_const pe_int (.int i)
theorem pd_str {i j} : PD X (.Constant (.str i) j pos) (dC (.str i)) := pd_const pe_str (.str i)
theorem pd_bl {i j} : PD X (.Constant (.bool i) j pos) (dC (.bool i)) := pd_const pe_bl (.bl i)
theorem pd_non {j} : PD X (.Constant .none j pos) (dC .none) := pd_const pe_non .non

/-! ### operators -/
abbrev DR2 := Sl → Sl → MHp → DP → Prop
def Snd (K : PySem.W.Frag) (r : R2) (ρ : DR2) : Prop := ∀ F M H v1 v2 s1 s2 post Q, Hs K F M H → SlR K F v1 s1 → SlR K F v2 s2 → ρ s1 s2 M post → Fol K F post Q → r v1 v2 H Q
def dOp (ρ : DR2) (τa τb : DT) : DT := fun M es post => τa M es fun M1 s1 => τb M1 es fun M2 s2 => ρ s1 s2 M2 post
theorem snd_op {K : PySem.W.Frag} {r : R2} {ρ : DR2} (h : Snd K r ρ) {σ : L2.St} {H : Hp} {Q : VK} (hq : lift K (dOp ρ τa τb) σ H Q) : tOp r (lift K τa) (lift K τb) σ H Q := by
  obtain ⟨F, M, es, post, hs, he, ht, hf⟩ := hq
  refine ⟨F, M, es, _, hs, he, ht, fun M1 s1 F1 H1 v1 p1 e1 hs1 r1 => ?_⟩
  refine ⟨F1, M1, es, _, hs1, he.mono e1, p1, fun M2 s2 F2 H2 v2 p2 e2 hs2 r2 => ?_⟩
  exact h F2 M2 H2 v1 v2 s1 s2 post Q hs2 (r1.mono e2) r2 p2 (hf.mono (e1.trans e2))
theorem pd_op {op : Operator} {r : R2} {ρ : DR2} (ho : OpR X (binaryOp op) r) (h : Snd X.K r ρ) (ha : PD X a τa) (hb : PD X b τb) : PD X (.BinOp a op b pos) (dOp ρ τa τb) := peI (pe_op ho ha hb) fun _ _ _ hq => snd_op h hq
theorem pd_cmp {op : CmpOp} {r : R2} {ρ : DR2} (ho : OpR X (compareOp op) r) (h : Snd X.K r ρ) (ha : PD X a τa) (hb : PD X b τb) (hm : behindInMarks op b = false) : PD X (.Compare a [op] [b] pos) (dOp ρ τa τb) := peI (pe_cmpR ho ha hb hm) fun _ _ _ hq => snd_op h hq
theorem pd_ix {r : R2} {ρ : DR2} (ho : IxR X r) (h : Snd X.K r ρ) (ha : PD X a τa) (hb : PD X b τb) (hs : PlainIx b) : PD X (.Subscript a b pos) (dOp ρ τa τb) := peI (pe_ix ho ha hb hs) fun _ _ _ hq => snd_op h hq
abbrev DR1 := Sl → MHp → DP → Prop
def Snd1 (K : PySem.W.Frag) (r : V → Hp → VK → Prop) (ρ : DR1) : Prop := ∀ F M H v s post Q, Hs K F M H → SlR K F v s → ρ s M post → Fol K F post Q → r v H Q
def dUn (ρ : DR1) (τa : DT) : DT := fun M es post => τa M es fun M1 s1 => ρ s1 M1 post
theorem pd_un {op : UnaryOp} {r : V → Hp → VK → Prop} {ρ : DR1} (ho : UnR X (unaryOp op) r) (h : Snd1 X.K r ρ) (ha : PD X a τa) : PD X (.UnaryOp op a pos) (dUn ρ τa) := peI (pe_un ho ha) fun σ H Q hq => by
  obtain ⟨F, M, es, post, hs, he, ht, hf⟩ := hq
  exact ⟨F, M, es, _, hs, he, ht, fun M1 s1 F1 H1 v1 p1 e1 hs1 r1 => h F1 M1 H1 v1 s1 post Q hs1 r1 p1 (hf.mono e1)⟩

/-- a list of data: as data, or a mutable one -/
def LstOf (M : MHp) (s : Sl) (ds : List PyData) : Prop := match s with
  | .d (.list es) => es = ds
  | .m a => M a = some (.lst (ds.map Sl.d))
  | _ => False
theorem LstOf.at {K : PySem.W.Frag} {F : Hp} {M : MHp} {H : Hp} {s : Sl} {v : V} {ds : List PyData} (h : LstOf M s ds) (hs : Hs K F M H) (r : SlR K F v s) : ∃ a vs, v = .ref a ∧ H a = some (.lst vs) ∧ DqA F vs ds := by
  cases s with
  | n => exact h.elim
  | s _ => exact h.elim
  | t _ => exact h.elim
  | c _ => exact h.elim
  | o _ _ => exact h.elim
  | f _ => exact h.elim
  | m a =>
    obtain ⟨vs, h1, h2⟩ := hs.lst h
    exact ⟨a, vs, r, h1, sls_data h2⟩
  | d x =>
    cases x with
    | list es =>
      have h : es = ds := h
      subst h
      cases r with
      | lst h1 h2 => exact ⟨_, _, rfl, hs.ex _ _ h1, h2⟩
    | _ => exact h.elim
theorem dq_int {F : Hp} {v : V} {i : Int} (h : Dq F v (.int i)) : v = .int i := by cases h; rfl
theorem dq_str {F : Hp} {v : V} {i : Str} (h : Dq F v (.str i)) : v = .str i := by cases h; rfl
theorem dq_bl {F : Hp} {v : V} {i : Bool} (h : Dq F v (.bool i)) : v = .bl i := by cases h; rfl
theorem dq_non {F : Hp} {v : V} (h : Dq F v .none) : v = .non := by cases h; rfl
theorem dq_tup {F : Hp} {v : V} {ds : List PyData} (h : Dq F v (.tuple ds)) : ∃ a vs, v = .ref a ∧ F a = some (.tup vs) ∧ DqA F vs ds := by cases h with | tup h1 h2 => exact ⟨_, _, rfl, h1, h2⟩
theorem dq_lst {F : Hp} {v : V} {ds : List PyData} (h : Dq F v (.list ds)) : ∃ a vs, v = .ref a ∧ F a = some (.lst vs) ∧ DqA F vs ds := by cases h with | lst h1 h2 => exact ⟨_, _, rfl, h1, h2⟩
theorem Fol.dat {K : PySem.W.Frag} {F : Hp} {M : MHp} {H : Hp} {post : DP} {Q : VK} (hf : Fol K F post Q) (hs : Hs K F M H) {v : V} {x : PyData} (r : Dq F v x) (hp : post M (.d x)) : Q v H := hf _ _ F H v hp (Same.refl F) hs r
/-- a new list of data -/
theorem Fol.newL {K : PySem.W.Frag} {F : Hp} {M : MHp} {H : Hp} {post : DP} {Q : VK} (hf : Fol K F post Q) (hs : Hs K F M H) {vs : List V} {ds : List PyData} (r : DqA F vs ds) (hp : post M (.d (.list ds))) : ∀ p, H p = none → Q (.ref p) (upd H p (.lst vs)) := fun p np => by
  obtain ⟨e1, hs1⟩ := hs.newD (o := .lst vs) np
  exact hf _ _ _ _ _ hp e1 hs1 (.lst upd_same (r.mono e1))
theorem Fol.newT {K : PySem.W.Frag} {F : Hp} {M : MHp} {H : Hp} {post : DP} {Q : VK} (hf : Fol K F post Q) (hs : Hs K F M H) {vs : List V} {ds : List PyData} (r : DqA F vs ds) (hp : post M (.d (.tuple ds))) : ∀ p, H p = none → Q (.ref p) (upd H p (.tup vs)) := fun p np => by
  obtain ⟨e1, hs1⟩ := hs.newD (o := .tup vs) np
  exact hf _ _ _ _ _ hp e1 hs1 (.tup upd_same (r.mono e1))
theorem Fol.here {K : PySem.W.Frag} {F : Hp} {M : MHp} {H : Hp} {post : DP} {Q : VK} (hf : Fol K F post Q) (hs : Hs K F M H) {v : V} {s : Sl} (r : SlR K F v s) (hp : post M s) : Q v H := hf _ _ F H v hp (Same.refl F) hs r
theorem Fol.newML {K : PySem.W.Frag} {F : Hp} {M : MHp} {H : Hp} {post : DP} {Q : VK} (hf : Fol K F post Q) (hs : Hs K F M H) {vs : List V} {ss : List Sl} (r : SlsR K F vs ss) (hp : ∀ a, M a = none → post (mput M a (.lst ss)) (.m a)) : ∀ p, H p = none → Q (.ref p) (upd H p (.lst vs)) := fun p np =>
  hf _ _ F _ _ (hp p (hs.freeM np)) (Same.refl F) (hs.newM np ⟨vs, upd_same, r⟩) rfl

/-- ints: a condition, and the answer -/
def ρI (C : Int → Int → Prop) (g : Int → Int → PyData) : DR2 := fun s1 s2 M post => match s1, s2 with
  | .d (.int i), .d (.int j) => C i j ∧ post M (.d (g i j))
  | _, _ => False
def ρI0 (g : Int → Int → PyData) : DR2 := fun s1 s2 M post => match s1, s2 with
  | .d (.int i), .d (.int j) => post M (.d (g i j))
  | _, _ => False
theorem ρI_inv {C : Int → Int → Prop} {g : Int → Int → PyData} {s1 s2 : Sl} {M : MHp} {post : DP} (h : ρI C g s1 s2 M post) : ∃ i j, s1 = .d (.int i) ∧ s2 = .d (.int j) ∧ C i j ∧ post M (.d (g i j)) := by
  unfold ρI at h; split at h
  · exact ⟨_, _, rfl, rfl, h⟩
  · exact h.elim
theorem ρI0_inv {g : Int → Int → PyData} {s1 s2 : Sl} {M : MHp} {post : DP} (h : ρI0 g s1 s2 M post) : ∃ i j, s1 = .d (.int i) ∧ s2 = .d (.int j) ∧ post M (.d (g i j)) := by
  unfold ρI0 at h; split at h
  · exact ⟨_, _, rfl, rfl, h⟩
  · exact h.elim
theorem snd_I {K : PySem.W.Frag} {C : Int → Int → Prop} {g : Int → Int → V} {g' : Int → Int → PyData} (hg : ∀ F i j, Dq F (g i j) (g' i j)) : Snd K (rI C g) (ρI C g') := by
  intro F M H v1 v2 s1 s2 post Q hs r1 r2 h hf
  obtain ⟨i, j, rfl, rfl, hc, hp⟩ := ρI_inv h
  exact ⟨i, j, dq_int r1, dq_int r2, hc, hf.dat hs (hg F i j) hp⟩
theorem snd_I0 {K : PySem.W.Frag} {g : Int → Int → V} {g' : Int → Int → PyData} (hg : ∀ F i j, Dq F (g i j) (g' i j)) : Snd K (rI0 g) (ρI0 g') := by
  intro F M H v1 v2 s1 s2 post Q hs r1 r2 h hf
  obtain ⟨i, j, rfl, rfl, hp⟩ := ρI0_inv h
  exact ⟨i, j, dq_int r1, dq_int r2, hf.dat hs (hg F i j) hp⟩
abbrev ρSub : DR2 := ρI0 fun i j => .int (i - j)
abbrev ρMod : DR2 := ρI (fun _ j => 0 < j) fun i j => .int (i % j)
abbrev ρDiv : DR2 := ρI CDivW fun i j => .int (i / j)
abbrev ρPow : DR2 := ρI CPow fun i j => .int (i ^ j.toNat)
theorem pd_sub (ha : PD X a τa) (hb : PD X b τb) : PD X (.BinOp a .Sub b pos) (dOp ρSub τa τb) := pd_op op_sub (snd_I0 fun _ _ _ => .int _) ha hb
theorem pd_mod (ha : PD X a τa) (hb : PD X b τb) : PD X (.BinOp a .Mod b pos) (dOp ρMod τa τb) := pd_op op_mod (snd_I fun _ _ _ => .int _) ha hb
theorem pd_fdiv (ha : PD X a τa) (hb : PD X b τb) : PD X (.BinOp a .FloorDiv b pos) (dOp ρDiv τa τb) := pd_op op_fdivW (snd_I fun _ _ _ => .int _) ha hb
theorem pd_pow (ha : PD X a τa) (hb : PD X b τb) : PD X (.BinOp a .Pow b pos) (dOp ρPow τa τb) := pd_op op_pow (snd_I fun _ _ _ => .int _) ha hb
abbrev ρLt : DR2 := ρI0 fun i j => .bool (decide (i < j))
abbrev ρLe : DR2 := ρI0 fun i j => .bool (decide (i ≤ j))
abbrev ρGt : DR2 := ρI0 fun i j => .bool (decide (j < i))
abbrev ρGe : DR2 := ρI0 fun i j => .bool (decide (j ≤ i))
theorem pd_lt (ha : PD X a τa) (hb : PD X b τb) : PD X (.Compare a [.Lt] [b] pos) (dOp ρLt τa τb) := pd_cmp op_lt (snd_I0 fun _ _ _ => .bl _) ha hb (nomark _)
theorem pd_le (ha : PD X a τa) (hb : PD X b τb) : PD X (.Compare a [.LtE] [b] pos) (dOp ρLe τa τb) := pd_cmp op_le (snd_I0 fun _ _ _ => .bl _) ha hb (nomark _)
theorem pd_gt (ha : PD X a τa) (hb : PD X b τb) : PD X (.Compare a [.Gt] [b] pos) (dOp ρGt τa τb) := pd_cmp op_gt (snd_I0 fun _ _ _ => .bl _) ha hb (nomark _)
theorem pd_ge (ha : PD X a τa) (hb : PD X b τb) : PD X (.Compare a [.GtE] [b] pos) (dOp ρGe τa τb) := pd_cmp op_ge (snd_I0 fun _ _ _ => .bl _) ha hb (nomark _)

/-- +: ints, texts, tuples, lists -/
def ρAdd : DR2 := fun s1 s2 M post => match s1, s2 with
  | .d (.int i), .d (.int j) => post M (.d (.int (i + j)))
  | .d (.str x), .d (.str y) => x.length + y.length ≤ sizeLine ∧ post M (.d (.str (x ++ y)))
  | .d (.tuple xs), .d (.tuple ys) => xs.length + ys.length ≤ sizeLine ∧ post M (.d (.tuple (xs ++ ys)))
  | s1, s2 => ∃ xs ys, LstOf M s1 xs ∧ LstOf M s2 ys ∧ xs.length + ys.length ≤ sizeLine ∧ post M (.d (.list (xs ++ ys)))
def rAddA (K : PySem.W.Frag) : R2 := fun x y H Q => rI0 (fun i j => .int (i + j)) x y H Q ∨ ((∃ i j, x = .str i ∧ y = .str j ∧ i.length + j.length ≤ sizeLine ∧ Q (.str (i ++ j)) H) ∨ (rCatA K x y H Q ∨ rCat x y H Q))
theorem op_addA : OpR X (binaryOp .Add) (rAddA X.K) := OpR.or op_add (OpR.or op_add_str (OpR.or op_catA op_cat))
theorem snd_addA {K : PySem.W.Frag} : Snd K (rAddA K) ρAdd := by
  intro F M H v1 v2 s1 s2 post Q hs r1 r2 h hf
  unfold ρAdd at h
  split at h
  · exact .inl ⟨_, _, dq_int r1, dq_int r2, hf.dat hs (.int _) h⟩
  · exact .inr (.inl ⟨_, _, dq_str r1, dq_str r2, h.1, hf.dat hs (.str _) h.2⟩)
  · obtain ⟨hl, hp⟩ := h
    obtain ⟨p, vs, rfl, hp1, ra⟩ := dq_tup r1
    obtain ⟨q, ws, rfl, hq1, rb⟩ := dq_tup r2
    have l1 := ra.length
    have l2 := rb.length
    refine .inr (.inr (.inl ⟨p, q, vs, ws, rfl, rfl, SqT.of (hs.ex _ _ hp1), SqT.of (hs.ex _ _ hq1), by omega, fun z => ?_, fun z z2 => ?_, fun z z2 => hf.newT hs (ra.append rb) hp⟩))
    · subst z; cases ra; exact hf.dat hs (.tup hq1 rb) hp
    · subst z2; cases rb; rw [List.append_nil] at hp; exact hf.dat hs (.tup hp1 ra) hp
  · obtain ⟨xs, ys, h1, h2, hl, hp⟩ := h
    obtain ⟨p, vs, rfl, hp1, ra⟩ := h1.at hs r1
    obtain ⟨q, ws, rfl, hq1, rb⟩ := h2.at hs r2
    have l1 := ra.length
    have l2 := rb.length
    exact .inr (.inr (.inr ⟨p, q, vs, ws, rfl, rfl, hp1, hq1, by omega, hf.newL hs (ra.append rb) hp⟩))
theorem pd_add (ha : PD X a τa) (hb : PD X b τb) : PD X (.BinOp a .Add b pos) (dOp ρAdd τa τb) := pd_op op_addA snd_addA ha hb
/-- *: ints, a list times an int -/
def ρMul : DR2 := fun s1 s2 M post => match s1, s2 with
  | .d (.int i), .d (.int j) => CMul i j ∧ post M (.d (.int (i * j)))
  | s1, .d (.int k) => ∃ xs, LstOf M s1 xs ∧ -(2 ^ 63) ≤ k ∧ k < 2 ^ 63 ∧ xs.length * k.toNat ≤ sizeLine ∧ post M (.d (.list (List.replicate k.toNat xs).flatten))
  | _, _ => False
def rMulA : R2 := fun x y H Q => rI CMul (fun i j => .int (i * j)) x y H Q ∨ rRep x y H Q
theorem op_mulA : OpR X (binaryOp .Mult) rMulA := OpR.or op_mul op_rep
theorem DqA.rep {F : Hp} {vs : List V} {ds : List PyData} (h : DqA F vs ds) : ∀ k : Nat, DqA F (List.replicate k vs).flatten (List.replicate k ds).flatten
  | 0 => .nil
  | k + 1 => by rw [List.replicate_succ, List.replicate_succ, List.flatten_cons, List.flatten_cons]; exact h.append (DqA.rep h k)
theorem snd_mulA {K : PySem.W.Frag} : Snd K rMulA ρMul := by
  intro F M H v1 v2 s1 s2 post Q hs r1 r2 h hf
  unfold ρMul at h
  split at h
  · exact .inl ⟨_, _, dq_int r1, dq_int r2, h.1, hf.dat hs (.int _) h.2⟩
  · obtain ⟨xs, h1, h2, h3, h4, hp⟩ := h
    obtain ⟨p, vs, rfl, hp1, ra⟩ := h1.at hs r1
    have l1 := ra.length
    exact .inr ⟨p, _, vs, rfl, dq_int r2, hp1, h2, h3, by rw [l1]; exact h4, hf.newL hs (ra.rep _) hp⟩
  · exact h.elim
theorem pd_mul (ha : PD X a τa) (hb : PD X b τb) : PD X (.BinOp a .Mult b pos) (dOp ρMul τa τb) := pd_op op_mulA snd_mulA ha hb
def ρNeg : DR1 := fun s M post => match s with
  | .d (.int i) => post M (.d (.int (-i)))
  | _ => False
theorem pd_neg (ha : PD X a τa) : PD X (.UnaryOp .USub a pos) (dUn ρNeg τa) := pd_un un_neg (by
  intro F M H v s post Q hs r h hf
  unfold ρNeg at h
  split at h
  · exact ⟨_, dq_int r, hf.dat hs (.int _) h⟩
  · exact h.elim) ha

/-! ### == and != of data -/
/-- data, or a mutable list of data -/
def DatOf (M : MHp) (s : Sl) (x : PyData) : Prop := match s with
  | .d y => y = x
  | .m a => ∃ ds, x = .list ds ∧ M a = some (.lst (ds.map Sl.d))
  | .s ns => x = .list (ns.map PyData.int)
  | .c y => y = x
  | _ => False
theorem dpa_ints {K : PySem.W.Frag} {H : Hp} : ∀ ns : List Int, DpAll K H (ns.map V.int) (ns.map PyData.int)
  | [] => .nil
  | _ :: r => .cons (.int _) (dpa_ints r)
theorem DatOf.at {K : PySem.W.Frag} {F : Hp} {M : MHp} {H : Hp} {s : Sl} {v : V} {x : PyData} (h : DatOf M s x) (hs : Hs K F M H) (r : SlR K F v s) : Dp K H v x := by
  cases s with
  | n => exact h.elim
  | t _ => exact h.elim
  | o _ _ => exact h.elim
  | f _ => exact h.elim
  | c y => have h : y = x := h; subst h; exact Cq.dp y v r
  | s ns => have h : x = .list (ns.map PyData.int) := h; subst h; obtain ⟨a, rfl, h1⟩ := r; exact .lst (sq_same hs.ex h1) (dpa_ints ns)
  | d y => have h : y = x := h; subst h; exact Dq.dp hs.ex y v r
  | m a =>
    obtain ⟨ds, rfl, h1⟩ := h
    obtain ⟨vs, h2, h3⟩ := hs.lst h1
    have r : v = .ref a := r
    subst r
    exact .lst (SqL.of h2) (DqA.dp hs.ex ds vs (sls_data h3))
def ρEq : DR2 := fun s1 s2 M post => ∃ x y, DatOf M s1 x ∧ DatOf M s2 y ∧ SeqAt.shaped x = true ∧ SeqAt.shaped y = true ∧ post M (.d (.bool (PyData.eqv x y)))
def ρNe : DR2 := fun s1 s2 M post => ∃ x y, DatOf M s1 x ∧ DatOf M s2 y ∧ SeqAt.shaped x = true ∧ SeqAt.shaped y = true ∧ post M (.d (.bool (!PyData.eqv x y)))
theorem pd_eq (hu : X.A.units + 64 < cLine) (ha : PD X a τa) (hb : PD X b τb) : PD X (.Compare a [.Eq] [b] pos) (dOp ρEq τa τb) := pd_cmp (op_eqD hu) (by
  intro F M H v1 v2 s1 s2 post Q hs r1 r2 h hf
  obtain ⟨x, y, h1, h2, h3, h4, hp⟩ := h
  exact ⟨x, y, h1.at hs r1, h2.at hs r2, h3, h4, hf.dat hs (.bl _) hp⟩) ha hb (nomark _)
theorem pd_ne (hu : X.A.units + 64 < cLine) (ha : PD X a τa) (hb : PD X b τb) : PD X (.Compare a [.NotEq] [b] pos) (dOp ρNe τa τb) := pd_cmp (op_neD hu) (by
  intro F M H v1 v2 s1 s2 post Q hs r1 r2 h hf
  obtain ⟨x, y, h1, h2, h3, h4, hp⟩ := h
  exact ⟨x, y, h1.at hs r1, h2.at hs r2, h3, h4, hf.dat hs (.bl _) hp⟩) ha hb (nomark _)

/-! ### items -/
theorem atI_map {α β : Type} {R : α → β → Prop} {xs : List α} {ys : List β} (h : Paired R xs ys) {i : Int} {y : β} (e : atI ys i = some y) : ∃ x, atI xs i = some x ∧ R x y := by
  unfold atI at e ⊢
  rw [Paired.len' h]
  cases q : ixN ys.length i with
  | none => rw [q] at e; cases e
  | some j =>
    rw [q] at e
    obtain ⟨x, h1, h2⟩ := Paired.get' (i := j) h e
    exact ⟨x, h1, h2⟩
theorem atI_dq {F : Hp} {vs : List V} {ds : List PyData} (h : DqA F vs ds) {i : Int} {d : PyData} (e : atI ds i = some d) : ∃ v, atI vs i = some v ∧ Dq F v d := by
  unfold atI at e ⊢
  rw [h.length]
  cases q : ixN ds.length i with
  | none => rw [q] at e; cases e
  | some j => rw [q] at e; exact h.get e
/-- x[i]: of a list, a tuple, a text, a dict by int or text -/
def ρIx : DR2 := fun s1 s2 M post => match s1, s2 with
  | .d (.list ds), .d (.int i) => ∃ d, atI ds i = some d ∧ post M (.d d)
  | .d (.tuple ds), .d (.int i) => ∃ d, atI ds i = some d ∧ post M (.d d)
  | .d (.str z), .d (.int i) => z.length ≤ sizeLine ∧ ∃ c, atI z.cps.toList i = some c ∧ post M (.d (.str ⟨#[c]⟩))
  | .m a, .d (.int i) => match M a with
    | some (.lst ss) => ∃ s, atI ss i = some s ∧ post M s
    | _ => False
  | .s ns, .d (.int i) => ∃ k, atI ns i = some k ∧ post M (.d (.int k))
  | .t ss, .d (.int i) => ∃ s, atI ss i = some s ∧ post M s
  | _, _ => False
theorem atI_mapI {ns : List Int} {i k : Int} (h : atI ns i = some k) : atI (ns.map V.int) i = some (.int k) := by
  unfold atI at h ⊢
  rw [List.length_map]
  cases q : ixN ns.length i with
  | none => rw [q] at h; cases h
  | some j =>
    rw [q] at h
    have h : ns[j]? = some k := h
    show (ns.map V.int)[j]? = some (.int k)
    rw [List.getElem?_map, h]
    rfl
theorem snd_ix {K : PySem.W.Frag} : Snd K (rIx K) ρIx := by
  intro F M H v1 v2 s1 s2 post Q hs r1 r2 h hf
  unfold ρIx at h
  split at h
  · obtain ⟨d, h1, hp⟩ := h
    obtain ⟨p, vs, rfl, hp1, ra⟩ := dq_lst r1
    obtain ⟨v, h2, h3⟩ := atI_dq ra h1
    exact .inl ⟨p, vs, _, v, rfl, dq_int r2, SqL.of (hs.ex _ _ hp1), h2, hf.dat hs h3 hp⟩
  · obtain ⟨d, h1, hp⟩ := h
    obtain ⟨p, vs, rfl, hp1, ra⟩ := dq_tup r1
    obtain ⟨v, h2, h3⟩ := atI_dq ra h1
    exact .inr (.inl ⟨p, vs, _, v, rfl, dq_int r2, SqT.of (hs.ex _ _ hp1), h2, hf.dat hs h3 hp⟩)
  · obtain ⟨hl, c, h1, hp⟩ := h
    exact .inr (.inr ⟨_, _, c, dq_str r1, dq_int r2, hl, h1, hf.dat hs (.str _) hp⟩)
  · rename_i a i
    have r1 : v1 = .ref a := r1
    split at h
    · rename_i ss hM
      obtain ⟨s, h1, hp⟩ := h
      obtain ⟨vs, h2, h3⟩ := hs.lst hM
      obtain ⟨v, h4, h5⟩ := atI_map h3 h1
      exact .inl ⟨a, vs, _, v, r1, dq_int r2, SqL.of h2, h4, hf.here hs h5 hp⟩
    · exact h.elim
  · obtain ⟨k, h1, hp⟩ := h
    obtain ⟨a, r1, h2⟩ := r1
    exact .inl ⟨a, _, _, .int k, r1, dq_int r2, sq_same hs.ex h2, atI_mapI h1, hf.dat hs (.int k) hp⟩
  · obtain ⟨s, h1, hp⟩ := h
    obtain ⟨a, vs, r1, h2, h3⟩ := r1
    obtain ⟨v, h4, h5⟩ := atI_map (tta_sls h3) h1
    exact .inr (.inl ⟨a, vs, _, v, r1, dq_int r2, SqT.of (hs.ex _ _ h2), h4, hf.here hs h5 hp⟩)
  · exact h.elim
theorem pd_item (ha : PD X a τa) (hb : PD X b τb) (hs : PlainIx b) : PD X (.Subscript a b pos) (dOp ρIx τa τb) := pd_ix ix_seq snd_ix ha hb hs
end
end DL
set_option Elab.async false
set_option autoImplicit false
set_option linter.all false
set_option maxRecDepth 100000
set_option maxHeartbeats 2000000
namespace DL
open PySem PySem.Spec PyProof.Rows L2

section
variable {X : Cx} {e a b c : Expr} {τ τa τb τc : DT} {θ θa θb : DTT} {pos : Pos}
/-! ### tests -/
/-- truth: of bools, ints, texts, lists of data -/
def ρTru (s : Sl) (M : MHp) (post : MHp → Bool → Prop) : Prop := match s with
  | .d (.bool b) => post M b
  | .d .none => post M false
  | .d (.int i) => post M (i != 0)
  | .d (.str z) => z.length ≤ sizeLine ∧ post M ((z.length : Int) != 0)
  | .d (.list ds) => post M (!ds.isEmpty)
  | .d (.tuple ds) => post M (!ds.isEmpty)
  | .m a => ∃ ss, M a = some (.lst ss) ∧ post M (!ss.isEmpty)
  | .t ss => post M (!ss.isEmpty)
  | _ => False
def dTru (τ : DT) : DTT := fun M es post => τ M es fun M1 s => ρTru s M1 post
theorem emp_dq {F : Hp} {vs : List V} {ds : List PyData} (h : DqA F vs ds) : (!ds.isEmpty) = !vs.isEmpty := by cases h <;> rfl
theorem emp_p {α β : Type} {R : α → β → Prop} {vs : List α} {ds : List β} (h : Paired R vs ds) : (!ds.isEmpty) = !vs.isEmpty := by cases h <;> rfl
theorem pdt_truth (ha : PD X a τ) (he : ∀ whole, isTrue a X.env whole = (do let v ← whole; standAt a.pos; holding [v] (truthy v))) : PDT X a (dTru τ) := ptI (pt_truth ha he) fun σ H Q hq => by
  obtain ⟨F, M, es, post, hs, he, ht, hf⟩ := hq
  refine ⟨F, M, es, _, hs, he, ht, fun M1 s F1 H1 v p1 e1 hs1 r1 => ?_⟩
  have fin : ∀ k, post M1 k → Q k H1 := fun k hk => hf M1 k F1 H1 hk e1 hs1
  unfold ρTru at p1
  split at p1
  · rw [dq_bl r1]; exact ⟨_, rfl, fin _ p1⟩
  · rw [dq_non r1]; exact ⟨_, rfl, fin _ p1⟩
  · rw [dq_int r1]; exact ⟨_, rfl, fin _ p1⟩
  · rw [dq_str r1]; exact ⟨_, ⟨p1.1, rfl⟩, fin _ p1.2⟩
  · obtain ⟨p, vs, rfl, h1, h2⟩ := dq_lst r1; exact ⟨_, .inl ⟨vs, SqL.of (hs1.ex _ _ h1), emp_dq h2⟩, fin _ p1⟩
  · obtain ⟨p, vs, rfl, h1, h2⟩ := dq_tup r1; exact ⟨_, .inr (.inl ⟨vs, SqT.of (hs1.ex _ _ h1), emp_dq h2⟩), fin _ p1⟩
  · obtain ⟨ss, hM, p1⟩ := p1
    obtain ⟨vs, h1, h2⟩ := hs1.lst hM
    rw [show v = .ref _ from r1]; exact ⟨_, .inl ⟨vs, SqL.of h1, emp_p h2⟩, fin _ p1⟩
  · obtain ⟨a, vs, rfl, h1, h2⟩ := r1
    exact ⟨_, .inr (.inl ⟨vs, SqT.of (hs1.ex _ _ h1), emp_p (tta_sls h2)⟩), fin _ p1⟩
  · exact p1.elim
/-- a comparison as a test -/
theorem pdt_cmp {op : CmpOp} {r : R2} {ρ : DR2} (ho : OpR X (compareOp op) r) (h : Snd X.K r ρ) (ha : PD X a τa) (hb : PD X b τb) (hm : behindInMarks op b = false) : PDT X (.Compare a [op] [b] pos) (fun M es post => dOp ρ τa τb M es fun M1 s => ∃ k, s = .d (.bool k) ∧ post M1 k) := ptI (pt_cmpR ho ha hb hm) fun σ H Q hq => by
  obtain ⟨F, M, es, post, hs, he, ht, hf⟩ := hq
  exact snd_op h (Q := fun x H' => ∃ k, x = .bl k ∧ Q k H') ⟨F, M, es, _, hs, he, ht, fun M1 s F1 H1 v p1 e1 hs1 r1 => by
    obtain ⟨k, rfl, hp⟩ := p1
    exact ⟨k, dq_bl r1, hf M1 k F1 H1 hp e1 hs1⟩⟩
def dB (τ : DT) : DTT := fun M es post => τ M es fun M1 s => ∃ k, s = .d (.bool k) ∧ post M1 k
theorem pdt_of_cmp {op : CmpOp} {e1 e2 : Expr} {τ : DT} (h : PT X (.Compare e1 [op] [e2] pos) (liftT X.K (dB τ))) : PDT X (.Compare e1 [op] [e2] pos) (dB τ) := h
theorem pdt_lt (ha : PD X a τa) (hb : PD X b τb) : PDT X (.Compare a [.Lt] [b] pos) (dB (dOp ρLt τa τb)) := pdt_cmp op_lt (snd_I0 fun _ _ _ => .bl _) ha hb (nomark _)
theorem pdt_le (ha : PD X a τa) (hb : PD X b τb) : PDT X (.Compare a [.LtE] [b] pos) (dB (dOp ρLe τa τb)) := pdt_cmp op_le (snd_I0 fun _ _ _ => .bl _) ha hb (nomark _)
theorem pdt_gt (ha : PD X a τa) (hb : PD X b τb) : PDT X (.Compare a [.Gt] [b] pos) (dB (dOp ρGt τa τb)) := pdt_cmp op_gt (snd_I0 fun _ _ _ => .bl _) ha hb (nomark _)
theorem pdt_ge (ha : PD X a τa) (hb : PD X b τb) : PDT X (.Compare a [.GtE] [b] pos) (dB (dOp ρGe τa τb)) := pdt_cmp op_ge (snd_I0 fun _ _ _ => .bl _) ha hb (nomark _)
theorem snd_eq {K : PySem.W.Frag} : Snd K (rEqD K) ρEq := by
  intro F M H v1 v2 s1 s2 post Q hs r1 r2 h hf
  obtain ⟨x, y, h1, h2, h3, h4, hp⟩ := h
  exact ⟨x, y, h1.at hs r1, h2.at hs r2, h3, h4, hf.dat hs (.bl _) hp⟩
theorem snd_ne {K : PySem.W.Frag} : Snd K (rNeD K) ρNe := by
  intro F M H v1 v2 s1 s2 post Q hs r1 r2 h hf
  obtain ⟨x, y, h1, h2, h3, h4, hp⟩ := h
  exact ⟨x, y, h1.at hs r1, h2.at hs r2, h3, h4, hf.dat hs (.bl _) hp⟩
theorem pdt_eq (hu : X.A.units + 64 < cLine) (ha : PD X a τa) (hb : PD X b τb) : PDT X (.Compare a [.Eq] [b] pos) (dB (dOp ρEq τa τb)) := pdt_cmp (op_eqD hu) snd_eq ha hb (nomark _)
theorem pdt_ne (hu : X.A.units + 64 < cLine) (ha : PD X a τa) (hb : PD X b τb) : PDT X (.Compare a [.NotEq] [b] pos) (dB (dOp ρNe τa τb)) := pdt_cmp (op_neD hu) snd_ne ha hb (nomark _)
/-- and, or, not as tests -/
def dAnd (θ υ : DTT) : DTT := fun M es post => θ M es fun M1 b => if b = true then υ M1 es post else post M1 false
def dOr (θ υ : DTT) : DTT := fun M es post => θ M es fun M1 b => if b = true then post M1 true else υ M1 es post
def dNot (θ : DTT) : DTT := fun M es post => θ M es fun M1 b => post M1 (!b)
theorem pdw_and1 {a : Expr} (ha : PDT X a θ) : PDW X (.BoolOp .And [a] pos) θ := pw_and1 ha
theorem pdw_or1 {a : Expr} (ha : PDT X a θ) : PDW X (.BoolOp .Or [a] pos) θ := pw_or1 ha
theorem pdw_and {a b : Expr} {rest : List Expr} (ha : PDT X a θa) (hb : PDW X (.BoolOp .And (b :: rest) pos) θb) : PDW X (.BoolOp .And (a :: b :: rest) pos) (dAnd θa θb) := pwI (pw_and ha hb) fun σ H Q hq => by
  obtain ⟨F, M, es, post, hs, he, ht, hf⟩ := hq
  refine ⟨F, M, es, _, hs, he, ht, fun M1 k F1 H1 p1 e1 hs1 => ?_⟩
  cases k with
  | true => rw [if_pos rfl] at p1; rw [if_pos rfl]; exact ⟨F1, M1, es, post, hs1, he.mono e1, p1, hf.mono e1⟩
  | false => rw [if_neg Bool.false_ne_true] at p1; rw [if_neg Bool.false_ne_true]; exact hf _ _ F1 H1 p1 e1 hs1
theorem pdw_or {a b : Expr} {rest : List Expr} (ha : PDT X a θa) (hb : PDW X (.BoolOp .Or (b :: rest) pos) θb) : PDW X (.BoolOp .Or (a :: b :: rest) pos) (dOr θa θb) := pwI (pw_or ha hb) fun σ H Q hq => by
  obtain ⟨F, M, es, post, hs, he, ht, hf⟩ := hq
  refine ⟨F, M, es, _, hs, he, ht, fun M1 k F1 H1 p1 e1 hs1 => ?_⟩
  cases k with
  | false => rw [if_neg Bool.false_ne_true] at p1; rw [if_neg Bool.false_ne_true]; exact ⟨F1, M1, es, post, hs1, he.mono e1, p1, hf.mono e1⟩
  | true => rw [if_pos rfl] at p1; rw [if_pos rfl]; exact hf _ _ F1 H1 p1 e1 hs1
theorem pdt_not (ha : PDT X a θ) : PDT X (.UnaryOp .Not a pos) (dNot θ) := ptI (pt_not ha) fun σ H Q hq => by
  obtain ⟨F, M, es, post, hs, he, ht, hf⟩ := hq
  exact ⟨F, M, es, _, hs, he, ht, fun M1 k F1 H1 p1 e1 hs1 => hf _ _ F1 H1 p1 e1 hs1⟩
/-- and, or, not as values of bools -/
def dAndV (τa τb : DT) : DT := fun M es post => τa M es fun M1 s => ∃ k, s = .d (.bool k) ∧ if k = true then τb M1 es post else post M1 (.d (.bool false))
def dOrV (τa τb : DT) : DT := fun M es post => τa M es fun M1 s => ∃ k, s = .d (.bool k) ∧ if k = true then post M1 (.d (.bool true)) else τb M1 es post
def dNotV (τa : DT) : DT := fun M es post => τa M es fun M1 s => ∃ k, s = .d (.bool k) ∧ post M1 (.d (.bool (!k)))
theorem pd_one {op} (h : PD X a τ) : PD X (.BoolOp op [a] pos) τ := pe_one h
theorem pd_and {a b : Expr} {rest : List Expr} (ha : PD X a τa) (hb : PD X (.BoolOp .And (b :: rest) pos) τb) : PD X (.BoolOp .And (a :: b :: rest) pos) (dAndV τa τb) := peI (pe_and ha hb) fun σ H Q hq => by
  obtain ⟨F, M, es, post, hs, he, ht, hf⟩ := hq
  refine ⟨F, M, es, _, hs, he, ht, fun M1 s F1 H1 v p1 e1 hs1 r1 => ?_⟩
  obtain ⟨k, rfl, p1⟩ := p1
  refine ⟨k, dq_bl r1, ?_⟩
  cases k with
  | true => rw [if_pos rfl] at p1; rw [if_pos rfl]; exact ⟨F1, M1, es, post, hs1, he.mono e1, p1, hf.mono e1⟩
  | false => rw [if_neg Bool.false_ne_true] at p1; rw [if_neg Bool.false_ne_true]; exact (hf.mono e1).dat hs1 (.bl _) p1
theorem pd_or {a b : Expr} {rest : List Expr} (ha : PD X a τa) (hb : PD X (.BoolOp .Or (b :: rest) pos) τb) : PD X (.BoolOp .Or (a :: b :: rest) pos) (dOrV τa τb) := peI (pe_or ha hb) fun σ H Q hq => by
  obtain ⟨F, M, es, post, hs, he, ht, hf⟩ := hq
  refine ⟨F, M, es, _, hs, he, ht, fun M1 s F1 H1 v p1 e1 hs1 r1 => ?_⟩
  obtain ⟨k, rfl, p1⟩ := p1
  refine ⟨k, dq_bl r1, ?_⟩
  cases k with
  | false => rw [if_neg Bool.false_ne_true] at p1; rw [if_neg Bool.false_ne_true]; exact ⟨F1, M1, es, post, hs1, he.mono e1, p1, hf.mono e1⟩
  | true => rw [if_pos rfl] at p1; rw [if_pos rfl]; exact (hf.mono e1).dat hs1 (.bl _) p1
theorem pd_not (ha : PD X a τa) : PD X (.UnaryOp .Not a pos) (dNotV τa) := peI (pe_not ha) fun σ H Q hq => by
  obtain ⟨F, M, es, post, hs, he, ht, hf⟩ := hq
  refine ⟨F, M, es, _, hs, he, ht, fun M1 s F1 H1 v p1 e1 hs1 r1 => ?_⟩
  obtain ⟨k, rfl, p1⟩ := p1
  exact ⟨k, dq_bl r1, (hf.mono e1).dat hs1 (.bl _) p1⟩
/-- x if t else y -/
def dIfE (θ : DTT) (τa τb : DT) : DT := fun M es post => θ M es fun M1 b => if b = true then τa M1 es post else τb M1 es post
theorem pd_ifE {c : Expr} (hc : PDT X c θ) (ha : PD X a τa) (hb : PD X b τb) : PD X (.IfExp c a b pos) (dIfE θ τa τb) := peI (pe_ifExp hc ha hb) fun σ H Q hq => by
  obtain ⟨F, M, es, post, hs, he, ht, hf⟩ := hq
  refine ⟨F, M, es, _, hs, he, ht, fun M1 k F1 H1 p1 e1 hs1 => ?_⟩
  cases k with
  | true => rw [if_pos rfl] at p1; rw [if_pos rfl]; exact ⟨F1, M1, es, post, hs1, he.mono e1, p1, hf.mono e1⟩
  | false => rw [if_neg Bool.false_ne_true] at p1; rw [if_neg Bool.false_ne_true]; exact ⟨F1, M1, es, post, hs1, he.mono e1, p1, hf.mono e1⟩
/-- a chain of two comparisons of ints -/
def dChain (ρ ρ' : DR2) (τa τb τc : DT) : DT := fun M es post => τa M es fun M1 s1 => τb M1 es fun M2 s2 => ρ s1 s2 M2 fun M3 s => ∃ k, s = .d (.bool k) ∧ if k = true then τc M3 es fun M4 s3 => ρ' s2 s3 M4 post else post M3 (.d (.bool false))
theorem pd_chain {op op' : CmpOp} {r r' : R2} {ρ ρ' : DR2} (ho : OpR X (compareOp op) r) (h : Snd X.K r ρ) (ho' : OpR X (compareOp op') r') (h' : Snd X.K r' ρ') (ha : PD X a τa) (hb : PD X b τb) (hc : PD X c τc) (hm : lastMarks [op, op'] [b, c] = false := by with_unfolding_all rfl) : PD X (.Compare a [op, op'] [b, c] pos) (dChain ρ ρ' τa τb τc) := peI (pe_chain ho ho' ha hb hc (hm := hm)) fun σ H Q hq => by
  obtain ⟨F, M, es, post, hs, he, ht, hf⟩ := hq
  refine ⟨F, M, es, _, hs, he, ht, fun M1 s1 F1 H1 v1 p1 e1 hs1 r1 => ?_⟩
  refine ⟨F1, M1, es, _, hs1, he.mono e1, p1, fun M2 s2 F2 H2 v2 p2 e2 hs2 r2 => ?_⟩
  refine h F2 M2 H2 v1 v2 s1 s2 _ _ hs2 (r1.mono e2) r2 p2 fun M3 s F3 H3 v p3 e3 hs3 r3 => ?_
  obtain ⟨k, rfl, p3⟩ := p3
  refine ⟨k, dq_bl r3, ?_⟩
  have hf3 := ((hf.mono e1).mono e2).mono e3
  cases k with
  | true =>
    rw [if_pos rfl] at p3; rw [if_pos rfl]
    refine ⟨F3, M3, es, _, hs3, ((he.mono e1).mono e2).mono e3, p3, fun M4 s4 F4 H4 v4 p4 e4 hs4 r4 => ?_⟩
    exact h' F4 M4 H4 v2 v4 s2 s4 post Q hs4 ((r2.mono e3).mono e4) r4 p4 (hf3.mono e4)
  | false => rw [if_neg Bool.false_ne_true] at p3; rw [if_neg Bool.false_ne_true]; exact hf3.dat hs3 (.bl _) p3

/-! ### arguments and displays -/
def dNil : DA := fun M _ post => post M []
def dCons (τ : DT) (α : DA) : DA := fun M es post => τ M es fun M1 s => α M1 es fun M2 ss => post M2 (s :: ss)
variable {α : DA} {es : List Expr}
theorem pda_nil : PDA X [] dNil := paI pa_nil fun σ H Q hq => by
  obtain ⟨F, M, es, post, hs, he, ht, hf⟩ := hq
  exact hf _ _ F H [] ht (Same.refl F) hs .nil
theorem pda_cons (ha : PD X e τ) (hr : PDA X es α) (hs : starEach (e :: es) X.env = (false, eval e X.env) :: starEach es X.env := by rfl) : PDA X (e :: es) (dCons τ α) := paI (pa_cons ha hr hs) fun σ H Q hq => by
  obtain ⟨F, M, es, post, hs, he, ht, hf⟩ := hq
  refine ⟨F, M, es, _, hs, he, ht, fun M1 s F1 H1 v p1 e1 hs1 r1 => ?_⟩
  exact ⟨F1, M1, es, _, hs1, he.mono e1, p1, fun M2 ss F2 H2 vs p2 e2 hs2 r2 => hf _ _ F2 H2 _ p2 (e1.trans e2) hs2 (.cons (r1.mono e2) r2)⟩
/-- [..]: data; mutable -/
def dLst (α : DA) : DT := fun M es post => α M es fun M1 ss => ∃ ds, ss = ds.map Sl.d ∧ ds.length ≤ sizeLine ∧ post M1 (.d (.list ds))
def dLstM (α : DA) : DT := fun M es post => α M es fun M1 ss => ss.length ≤ sizeLine ∧ ∀ p, M1 p = none → post (mput M1 p (.lst ss)) (.m p)
def dTup (α : DA) : DT := fun M es post => α M es fun M1 ss => ∃ ds, ss = ds.map Sl.d ∧ ds.length ≤ sizeLine ∧ post M1 (.d (.tuple ds))
theorem pd_lst (ha : PDA X es α) : PD X (.List es pos) (dLst α) := peI (pe_lst ha) fun σ H Q hq => by
  obtain ⟨F, M, es, post, hs, he, ht, hf⟩ := hq
  refine ⟨F, M, es, _, hs, he, ht, fun M1 ss F1 H1 vs p1 e1 hs1 r1 => ?_⟩
  obtain ⟨ds, rfl, hl, hp⟩ := p1
  have rd := sls_data r1
  exact ⟨by rw [rd.length]; exact hl, (hf.mono e1).newL hs1 rd hp⟩
theorem pd_lstM (ha : PDA X es α) : PD X (.List es pos) (dLstM α) := peI (pe_lst ha) fun σ H Q hq => by
  obtain ⟨F, M, es, post, hs, he, ht, hf⟩ := hq
  refine ⟨F, M, es, _, hs, he, ht, fun M1 ss F1 H1 vs p1 e1 hs1 r1 => ?_⟩
  exact ⟨by rw [Paired.len' r1]; exact p1.1, (hf.mono e1).newML hs1 r1 p1.2⟩
theorem pd_tup {k} (ha : PDA X es α) : PD X (.Tuple es k pos) (dTup α) := peI (pe_tup ha) fun σ H Q hq => by
  obtain ⟨F, M, es, post, hs, he, ht, hf⟩ := hq
  refine ⟨F, M, es, _, hs, he, ht, fun M1 ss F1 H1 vs p1 e1 hs1 r1 => ?_⟩
  obtain ⟨ds, rfl, hl, hp⟩ := p1
  have rd := sls_data r1
  exact ⟨by rw [rd.length]; exact hl, (hf.mono e1).newT hs1 rd hp⟩
/-- a tuple of anything -/
def dTupT (α : DA) : DT := fun M es post => α M es fun M1 ss => ss.length ≤ sizeLine ∧ post M1 (.t ss)
theorem pd_tupT {k} (ha : PDA X es α) : PD X (.Tuple es k pos) (dTupT α) := peI (pe_tup ha) fun σ H Q hq => by
  obtain ⟨F, M, es, post, hs, he, ht, hf⟩ := hq
  refine ⟨F, M, es, _, hs, he, ht, fun M1 ss F1 H1 vs p1 e1 hs1 r1 => ?_⟩
  refine ⟨by rw [Paired.len' r1]; exact p1.1, fun p np => ?_⟩
  obtain ⟨e2, hs2⟩ := hs1.newD (o := .tup vs) np
  exact hf _ _ _ _ _ p1.2 (e1.trans e2) hs2 ⟨p, vs, rfl, upd_same, sls_tta (r1.mono e2)⟩

/-! ### slices -/
abbrev DO := MHp → List Sl → (MHp → Option Int → Prop) → Prop
def liftO (K : PySem.W.Frag) (τ : DO) : TO := fun σ H Q => ∃ F M es post, Hs K F M H ∧ Env K F σ es ∧ τ M es post ∧ ∀ M' o F' H', post M' o → Same F F' → Hs K F' M' H' → Q o H'
theorem poI {X : Cx} {e : Option Expr} {t t' : TO} (h : PO X e t) (hi : ∀ σ H Q, t' σ H Q → t σ H Q) : PO X e t' := ⟨fun pins s σ H Q I hq => h.run pins s σ H Q I (hi σ H Q hq)⟩
def dNoP : DO := fun M _ post => post M none
def dPart (τ : DT) : DO := fun M es post => τ M es fun M1 s => ∃ i, s = .d (.int i) ∧ post M1 (some i)
theorem pdo_none : PO X none (liftO X.K dNoP) := poI po_none fun σ H Q hq => by
  obtain ⟨F, M, es, post, hs, he, ht, hf⟩ := hq
  exact hf _ _ F H ht (Same.refl F) hs
theorem pdo_some (ha : PD X a τ) : PO X (some a) (liftO X.K (dPart τ)) := poI (po_some ha) fun σ H Q hq => by
  obtain ⟨F, M, es, post, hs, he, ht, hf⟩ := hq
  refine ⟨F, M, es, _, hs, he, ht, fun M1 s F1 H1 v p1 e1 hs1 r1 => ?_⟩
  obtain ⟨i, rfl, hp⟩ := p1
  exact ⟨i, dq_int r1, hf _ _ F1 H1 hp e1 hs1⟩
def cutD {β : Type} (xs : List β) (lo hi : Option Int) : List β := (xs.drop (HT.sIx xs.length 0 lo)).take (HT.sIx xs.length xs.length hi - HT.sIx xs.length 0 lo)
/-- x[lo:hi] of a list, a tuple, a text -/
def ρSl (s : Sl) (lo hi : Option Int) (M : MHp) (post : DP) : Prop := match s with
  | .d (.tuple ds) => post M (.d (.tuple (cutD ds lo hi)))
  | .d (.str z) => z.length ≤ sizeLine ∧ post M (.d (.str (cutS z lo hi)))
  | .s ns => post M (.d (.list (cutD (ns.map PyData.int) lo hi)))
  | s => ∃ ds, LstOf M s ds ∧ post M (.d (.list (cutD ds lo hi)))
def dSl (τ : DT) (l h : DO) : DT := fun M es post => τ M es fun M1 s => l M1 es fun M2 lo => h M2 es fun M3 hi => ρSl s lo hi M3 post
theorem cut_dq {F : Hp} {vs : List V} {ds : List PyData} (h : DqA F vs ds) (lo hi : Option Int) : DqA F (cutV vs lo hi) (cutD ds lo hi) := by
  unfold cutV cutD; rw [h.length]; exact (h.drop _).take _
theorem dqa_ints {F : Hp} : ∀ ns : List Int, DqA F (ns.map V.int) (ns.map PyData.int)
  | [] => .nil
  | _ :: r => .cons (.int _) (dqa_ints r)
theorem pd_slice {lo hi : Option Expr} {p2 : Pos} {l h : DO} (he : PD X e τ) (hl : PO X lo (liftO X.K l)) (hh : PO X hi (liftO X.K h)) : PD X (.Subscript e (.Slice lo hi none p2) pos) (dSl τ l h) :=
  peI (pe_slice (r := fun x lo hi H Q => rSlL X.K x lo hi H Q ∨ (rSlS x lo hi H Q ∨ rSlA X.K x lo hi H Q)) (L2.SlR.or sl_list (L2.SlR.or sl_str sl_tupA)) he hl hh) fun σ H Q hq => by
  obtain ⟨F, M, es, post, hs, he, ht, hf⟩ := hq
  refine ⟨F, M, es, _, hs, he, ht, fun M1 s F1 H1 v p1 e1 hs1 r1 => ?_⟩
  refine ⟨F1, M1, es, _, hs1, he.mono e1, p1, fun M2 lo F2 H2 p2 e2 hs2 => ?_⟩
  refine ⟨F2, M2, es, _, hs2, (he.mono e1).mono e2, p2, fun M3 hi F3 H3 p3 e3 hs3 => ?_⟩
  have r3 := (r1.mono e2).mono e3
  have hf3 := ((hf.mono e1).mono e2).mono e3
  unfold ρSl at p3
  split at p3
  · obtain ⟨p, vs, rfl, h1, h2⟩ := dq_tup r3
    refine .inr (.inr ⟨p, vs, rfl, SqT.of (hs3.ex _ _ h1), fun z => ?_, fun z => hf3.newT hs3 (cut_dq h2 lo hi) p3⟩)
    have e : ∀ ds : List PyData, vs.length = ds.length → cutD ds lo hi = ds := fun ds hl => by
      unfold cutD; rw [← hl, z.1, z.2, List.drop_zero, Nat.sub_zero, hl, List.take_length]
    rw [e _ h2.length] at p3
    exact hf3.dat hs3 (.tup h1 h2) p3
  · exact .inr (.inl ⟨_, dq_str r3, p3.1, hf3.dat hs3 (.str _) p3.2⟩)
  · obtain ⟨a, rfl, h1⟩ := r3
    exact .inl ⟨a, _, rfl, sq_same hs3.ex h1, hf3.newL hs3 (cut_dq (dqa_ints _) lo hi) p3⟩
  · obtain ⟨ds, h1, hp⟩ := p3
    obtain ⟨p, vs, rfl, h2, h3⟩ := h1.at hs3 r3
    exact .inl ⟨p, vs, rfl, SqL.of h2, hf3.newL hs3 (cut_dq h3 lo hi) hp⟩
/-- xs[::-1] -/
def dRev (τ : DT) : DT := fun M es post => τ M es fun M1 s => ∃ ds, LstOf M1 s ds ∧ post M1 (.d (.list ds.reverse))
theorem pd_rev {k p1 p2 p3} (he : PD X e τ) : PD X (.Subscript e (.Slice none none (some (.UnaryOp .USub (.Constant (.int 1) k p1) p2)) p3) pos) (dRev τ) := peI (pe_revL he) fun σ H Q hq => by
  obtain ⟨F, M, es, post, hs, he, ht, hf⟩ := hq
  refine ⟨F, M, es, _, hs, he, ht, fun M1 s F1 H1 v p1 e1 hs1 r1 => ?_⟩
  obtain ⟨ds, h1, hp⟩ := p1
  obtain ⟨p, vs, rfl, h2, h3⟩ := h1.at hs1 r1
  exact ⟨p, vs, rfl, SqL.of h2, (hf.mono e1).newL hs1 h3.reverse hp⟩
end

/-! ### statements -/
structure DE where
  nx : MHp → List Sl → Prop
  rt : DP
  bk : MHp → List Sl → Prop := fun _ _ => False
  ct : MHp → List Sl → Prop := fun _ _ => False
abbrev DS := DE → MHp → List Sl → Prop
def FolS (K : PySem.W.Frag) (F : Hp) (post : MHp → List Sl → Prop) (Q : L2.St → Hp → Prop) : Prop := ∀ M es F' σ H, post M es → Same F F' → Hs K F' M H → Env K F' σ es → Q σ H
theorem FolS.mono {K : PySem.W.Frag} {F F1 : Hp} {post : MHp → List Sl → Prop} {Q : L2.St → Hp → Prop} (h : FolS K F post Q) (e : Same F F1) : FolS K F1 post Q := fun M s F' H' v p e' => h M s F' H' v p (e.trans e')
structure Im (K : PySem.W.Frag) (F : Hp) (D' : DE) (D : Ends) : Prop where
  nx : FolS K F D'.nx D.nx
  rt : Fol K F D'.rt D.rt
  bk : FolS K F D'.bk D.bk
  ct : FolS K F D'.ct D.ct
theorem Im.mono {K : PySem.W.Frag} {F F1 : Hp} {D' : DE} {D : Ends} (h : Im K F D' D) (e : Same F F1) : Im K F1 D' D := ⟨h.nx.mono e, h.rt.mono e, h.bk.mono e, h.ct.mono e⟩
def liftS (K : PySem.W.Frag) (τ : DS) : L2.TS := fun D σ H => ∃ F M es D', Hs K F M H ∧ Env K F σ es ∧ τ D' M es ∧ Im K F D' D
abbrev PDS (X : Cx) (st : Stmt) (τ : DS) : Prop := PS X st (liftS X.K τ)
abbrev PDSs (X : Cx) (st : List Stmt) (τ : DS) : Prop := PSs X st (liftS X.K τ)
section
variable {X : Cx} {e a b : Expr} {st : Stmt} {rest : List Stmt} {τ : DT} {ς ςa ςb : DS} {θ : DTT} {pos : Pos}
def dNext : DS := fun D M es => D.nx M es
def dSeq (ςa ςb : DS) : DS := fun D M es => ςa { D with nx := ςb D } M es
theorem pds_nil : PDSs X [] dNext := pssI pss_nil fun D σ H hq => by
  obtain ⟨F, M, es, D', hs, he, ht, hf⟩ := hq
  exact hf.nx M es F σ H ht (Same.refl F) hs he
theorem pds_cons (h1 : PDS X st ςa) (h2 : PDSs X rest ςb) : PDSs X (st :: rest) (dSeq ςa ςb) := pssI (pss_cons h1 h2) fun D σ H hq => by
  obtain ⟨F, M, es, D', hs, he, ht, hf⟩ := hq
  exact ⟨F, M, es, { D' with nx := ςb D' }, hs, he, ht, ⟨fun M1 es1 F1 σ1 H1 p1 e1 hs1 he1 => ⟨F1, M1, es1, D', hs1, he1, p1, hf.mono e1⟩, hf.rt, hf.bk, hf.ct⟩⟩
theorem pds_one (h1 : PDS X st ςa) : PDSs X [st] ςa := pss_one h1
theorem pds_pass : PDS X (.Pass pos) dNext := psI ps_pass fun D σ H hq => by
  obtain ⟨F, M, es, D', hs, he, ht, hf⟩ := hq
  exact hf.nx M es F σ H ht (Same.refl F) hs he
def dBreak : DS := fun D M es => D.bk M es
def dCont : DS := fun D M es => D.ct M es
theorem pds_break : PDS X (.Break pos) dBreak := psI ps_break fun D σ H hq => by
  obtain ⟨F, M, es, D', hs, he, ht, hf⟩ := hq
  exact hf.bk M es F σ H ht (Same.refl F) hs he
theorem pds_cont : PDS X (.Continue pos) dCont := psI ps_continue fun D σ H hq => by
  obtain ⟨F, M, es, D', hs, he, ht, hf⟩ := hq
  exact hf.ct M es F σ H ht (Same.refl F) hs he
def dExpr (τ : DT) : DS := fun D M es => τ M es fun M1 _ => D.nx M1 es
theorem pds_expr (h : PD X e τ) (hs : swapsWith e none pos.line X.env = pure false := by rfl) : PDS X (.Expr e pos) (dExpr τ) := psI (ps_expr h hs) fun D σ H hq => by
  obtain ⟨F, M, es, D', hs, he, ht, hf⟩ := hq
  exact ⟨F, M, es, _, hs, he, ht, fun M1 s F1 H1 v p1 e1 hs1 r1 => hf.nx _ _ F1 σ H1 p1 e1 hs1 (he.mono e1)⟩
def dRet (τ : DT) : DS := fun D M es => τ M es D.rt
theorem pds_ret (h : PD X e τ) : PDS X (.Return (some e) pos) (dRet τ) := psI (ps_ret h) fun D σ H hq => by
  obtain ⟨F, M, es, D', hs, he, ht, hf⟩ := hq
  exact ⟨F, M, es, _, hs, he, ht, hf.rt⟩
def dRetN : DS := fun D M _ => D.rt M (.d .none)
theorem pds_retN : PDS X (.Return none pos) dRetN := psI ps_retN fun D σ H hq => by
  obtain ⟨F, M, es, D', hs, he, ht, hf⟩ := hq
  exact hf.rt.dat hs .non ht
def dIf (θ : DTT) (ςa ςb : DS) : DS := fun D M es => θ M es fun M1 b => if b = true then ςa D M1 es else ςb D M1 es
theorem pds_if {c : Expr} {sa sb : List Stmt} (hc : PDT X c θ) (ha : PDSs X sa ςa) (hb : PDSs X sb ςb) : PDS X (.If c sa sb pos) (dIf θ ςa ςb) := psI (ps_if hc ha hb) fun D σ H hq => by
  obtain ⟨F, M, es, D', hs, he, ht, hf⟩ := hq
  refine ⟨F, M, es, _, hs, he, ht, fun M1 k F1 H1 p1 e1 hs1 => ?_⟩
  cases k with
  | true => rw [if_pos rfl] at p1; rw [if_pos rfl]; exact ⟨F1, M1, es, D', hs1, he.mono e1, p1, hf.mono e1⟩
  | false => rw [if_neg Bool.false_ne_true] at p1; rw [if_neg Bool.false_ne_true]; exact ⟨F1, M1, es, D', hs1, he.mono e1, p1, hf.mono e1⟩
/-- x = e -/
def dSet (i : Nat) (τ : DT) : DS := fun D M es => τ M es fun M1 s => D.nx M1 (es.set i s)
theorem env_set {K : PySem.W.Frag} {F : Hp} {σ : L2.St} {es : List Sl} {v : V} {s : Sl} (i : Nat) (h : Env K F σ es) (r : SlR K F v s) : Env K F (σ.set i (some v)) (es.set i s) := Paired.set' (OR.some r) i h
theorem lift_set {K : PySem.W.Frag} {i : Nat} {D : Ends} {σ : L2.St} {H : Hp} (hq : liftS K (dSet i τ) D σ H) : tAsg (lift K τ) (gName i) D σ H := by
  obtain ⟨F, M, es, D', hs, he, ht, hf⟩ := hq
  exact ⟨F, M, es, _, hs, he, ht, fun M1 s F1 H1 v p1 e1 hs1 r1 => hf.nx _ _ F1 _ H1 p1 e1 hs1 (env_set i (he.mono e1) r1)⟩
theorem pds_set {i : Nat} {x : Str} {pos' : Pos} (hN : X.N.Nodup) (hi : X.N[i]? = some x) (hx : Loc X.env.scope x) (he : PD X e τ) (hs : swapsWith e (some (.Name x pos')) pos.line X.env = pure false := by rfl) (hf : X.fn x = true ∨ X.env.scope.names.lookup x = some .local := by first | exact .inl rfl | exact .inr rfl | assumption) :
    PDS X (.Assign [.Name x pos'] e pos) (dSet i τ) := psI (ps_set hN hi hx he hs hf) fun D σ H hq => lift_set hq
/-- x, y = e (a tuple of data, or a mutable one) -/
def setAll (es : List Sl) : List Nat → List Sl → List Sl
  | j :: js, s :: ss => setAll (es.set j s) js ss
  | _, _ => es
def TupOf (M : MHp) (s : Sl) (ss : List Sl) : Prop := match s with
  | .d (.tuple ds) => ss = ds.map Sl.d
  | .t us => ss = us
  | _ => False
theorem TupOf.at {K : PySem.W.Frag} {F : Hp} {M : MHp} {H : Hp} {s : Sl} {v : V} {ss : List Sl} (h : TupOf M s ss) (hs : Hs K F M H) (r : SlR K F v s) : ∃ a vs, v = .ref a ∧ H a = some (.tup vs) ∧ SlsR K F vs ss := by
  cases s with
  | n => exact h.elim
  | s _ => exact h.elim
  | c _ => exact h.elim
  | o _ _ => exact h.elim
  | f _ => exact h.elim
  | t us =>
    have h : ss = us := h
    subst h
    obtain ⟨a, vs, rfl, h1, h2⟩ := r
    exact ⟨a, vs, rfl, hs.ex _ _ h1, tta_sls h2⟩
  | m a => exact h.elim
  | d x =>
    cases x with
    | tuple es =>
      have h : ss = es.map Sl.d := h
      subst h
      obtain ⟨a, vs, rfl, h1, h2⟩ := dq_tup r
      exact ⟨_, _, rfl, hs.ex _ _ h1, data_sls h2⟩
    | _ => exact h.elim
/-- a target: a name, names in a tuple -/
inductive Tg where
  | nm (j : Nat) | tp (js : List Nat)
def Tg.set (t : Tg) (s : Sl) (M : MHp) (es : List Sl) (k : List Sl → Prop) : Prop := match t with
  | .nm j => k (es.set j s)
  | .tp js => ∃ ss, TupOf M s ss ∧ ss.length = js.length ∧ k (setAll es js ss)
/-- a target's reading -/
def gAll : List Nat → TGs
  | [] => gNil
  | j :: js => gCons (gName j) (gAll js)
def Tg.g (K : PySem.W.Frag) : Tg → TG
  | .nm j => gName j
  | .tp js => gTup K js.length (gAll js)
def setV (σ : L2.St) : List Nat → List V → L2.St
  | j :: js, v :: vs => setV (σ.set j (some v)) js vs
  | _, _ => σ
theorem g_all {Q : L2.St → Hp → Prop} {H : Hp} : ∀ {js : List Nat} {vs : List V} {σ : L2.St}, vs.length = js.length → Q (setV σ js vs) H → gAll js vs σ H Q
  | [], [], _, _, q => ⟨rfl, q⟩
  | j :: js, v :: vs, σ, hl, q => ⟨v, vs, rfl, g_all (js := js) (vs := vs) (σ := σ.set j (some v)) (by simpa using hl) q⟩
theorem env_setAll {K : PySem.W.Frag} {F : Hp} : ∀ {js : List Nat} {vs : List V} {ss : List Sl} {σ : L2.St} {es : List Sl}, SlsR K F vs ss → Env K F σ es → Env K F (setV σ js vs) (setAll es js ss)
  | [], _, _, _, _, _, h => by unfold setV setAll; exact h
  | _ :: _, _, _, _, _, .nil, h => by unfold setV setAll; exact h
  | j :: js, _, _, _, _, .cons r rs, h => by unfold setV setAll; exact env_setAll rs (env_set j h r)
theorem Tg.lift {K : PySem.W.Frag} {t : Tg} {F : Hp} {M : MHp} {H : Hp} {σ : L2.St} {es : List Sl} {s : Sl} {v : V} {k : List Sl → Prop} {Q : L2.St → Hp → Prop} (hs : Hs K F M H) (he : Env K F σ es) (r : SlR K F v s) (h : t.set s M es k)
    (hq : ∀ σ' es', Env K F σ' es' → k es' → Q σ' H) : t.g K v σ H Q := by
  cases t with
  | nm j => exact hq _ _ (env_set j he r) h
  | tp js =>
    obtain ⟨ss, h1, h2, h3⟩ := h
    obtain ⟨a, vs, rfl, h4, h5⟩ := h1.at hs r
    exact ⟨a, vs, rfl, SqT.of h4, by rw [Paired.len' h5]; exact h2, g_all (by rw [Paired.len' h5]; exact h2) (hq _ _ (env_setAll h5 he) h3)⟩
abbrev PDG (X : Cx) (tg : Expr) (t : Tg) : Prop := PG X tg (t.g X.K)
theorem pdg_nm {i : Nat} {x : Str} (hN : X.N.Nodup) (hi : X.N[i]? = some x) (hx : Loc X.env.scope x) (hf : X.fn x = true ∨ X.env.scope.names.lookup x = some .local := by first | exact .inl rfl | exact .inr rfl | assumption) : PDG X (.Name x pos) (.nm i) := pg_name hN hi hx hf
theorem pdg_tp {es : List Expr} {k : Nat} {js : List Nat} (hc : X.calm = true) (h : PGs X es (gAll js)) (hn : (assignEach es X.env).length = js.length := by rfl) (hst : (assignEach es X.env).findIdx? (·.1) = none := by rfl) : PDG X (.Tuple es k pos) (.tp js) := pg_tup hc h hn hst
theorem pdgs_cons {i : Nat} {x : Str} {es : List Expr} {js : List Nat} (hN : X.N.Nodup) (hi : X.N[i]? = some x) (hx : Loc X.env.scope x) (h2 : PGs X es (gAll js)) (hf : X.fn x = true ∨ X.env.scope.names.lookup x = some .local := by first | exact .inl rfl | exact .inr rfl | assumption)
    (hs : (assignEach (.Name x pos :: es) X.env).map (·.2) = assign (.Name x pos) X.env :: (assignEach es X.env).map (·.2) := by rfl) : PGs X (.Name x pos :: es) (gAll (i :: js)) := pgs_cons (pg_name hN hi hx hf) h2 hs
def dAsg (t : Tg) (τ : DT) : DS := fun D M es => τ M es fun M1 s => t.set s M1 es (D.nx M1)
theorem pds_asg {tg e : Expr} {t : Tg} (he : PD X e τ) (hg : PDG X tg t) (hs : swapsWithSole [tg] e pos.line X.env = pure false := by rfl) (hw : swappedStores [tg] e X.env = pure none := by rfl) (h1 : (assignEach [tg] X.env).map (·.2) = [assign tg X.env] := by rfl) : PDS X (.Assign [tg] e pos) (dAsg t τ) :=
  psI (ps_asg he hg hs hw (h1 := h1)) fun D σ H hq => by
  obtain ⟨F, M, es, D', hs, he, ht, hf⟩ := hq
  refine ⟨F, M, es, _, hs, he, ht, fun M1 s F1 H1 v p1 e1 hs1 r1 => ?_⟩
  exact Tg.lift hs1 (he.mono e1) r1 p1 fun σ' es' he' hk => hf.nx _ _ F1 _ H1 hk e1 hs1 he'
/-- x, y = a, b -/
def dPar (i j : Nat) (α : DA) : DS := fun D M es => α M es fun M1 ss => match ss with
  | [s, t] => D.nx M1 ((es.set i s).set j t)
  | _ => False
theorem pds_par {i j : Nat} {x y : Str} {a b : Expr} {α : DA} {px py pt : Pos} {kt k2 pt2} (hc : X.calm = true) (hN : X.N.Nodup) (hi : X.N[i]? = some x) (hj : X.N[j]? = some y) (hij : i ≠ j)
    (hx : X.env.scope.names.lookup x = some .local) (hy : X.env.scope.names.lookup y = some .local) (ha : PDA X [a, b] α)
    (hw : swappedStores [.Tuple [.Name x px, .Name y py] kt pt] (.Tuple [a, b] k2 pt2) X.env = pure (some [x, y]))
    (hs : swapsWithSole [.Tuple [.Name x px, .Name y py] kt pt] (.Tuple [a, b] k2 pt2) pos.line X.env = pure false := by rfl) : PDS X (.Assign [.Tuple [.Name x px, .Name y py] kt pt] (.Tuple [a, b] k2 pt2) pos) (dPar i j α) :=
  psI (ps_par hc hN hi hj hij hx hy ha hw hs) fun D σ H hq => by
  obtain ⟨F, M, es, D', hs, he, ht, hf⟩ := hq
  refine ⟨F, M, es, _, hs, he, ht, fun M1 ss F1 H1 vs p1 e1 hs1 r1 => ?_⟩
  cases r1 with
  | nil => exact p1.elim
  | cons r1 r2 =>
    cases r2 with
    | nil => exact p1.elim
    | cons r2 r3 =>
      cases r3 with
      | cons _ _ => exact p1.elim
      | nil => exact ⟨_, _, rfl, hf.nx _ _ F1 _ H1 p1 e1 hs1 (env_set j (env_set i (he.mono e1) r1) r2)⟩
/-- x += e (ints) -/
def dAugI (f : Int → Int → Int) (i : Nat) (τ : DT) : DS := fun D M es => ∃ k, es[i]? = some (.d (.int k)) ∧ τ M es fun M1 s => ∃ l, s = .d (.int l) ∧ D.nx M1 (es.set i (.d (.int (f k l))))
theorem pds_aug {i : Nat} {x : Str} {op : Operator} {f : Int → Int → Int} {pos' : Pos} (hN : X.N.Nodup) (hi : X.N[i]? = some x) (hx : Loc X.env.scope x) (he : PD X e τ) (ho : PIp X op (ipI f)) (hf : X.fn x = true ∨ X.env.scope.names.lookup x = some .local := by first | exact .inl rfl | exact .inr rfl | assumption) :
    PDS X (.AugAssign (.Name x pos') op e pos) (dAugI f i τ) := psI (ps_aug hN hi hx he ho hf) fun D σ H hq => by
  obtain ⟨F, M, es, D', hs, he, ⟨k, hk, ht⟩, hf⟩ := hq
  obtain ⟨v, h1, h2⟩ := or_var he hk (by simp)
  refine ⟨v, h1, F, M, es, _, hs, he, ht, fun M1 s F1 H1 w p1 e1 hs1 r1 => ?_⟩
  obtain ⟨l, rfl, hp⟩ := p1
  exact ⟨k, l, dq_int h2, dq_int r1, hf.nx _ _ F1 _ H1 hp e1 hs1 (env_set i (he.mono e1) (s := .d (.int (f k l))) (.int _))⟩
end
end DL
set_option Elab.async false
set_option autoImplicit false
set_option linter.all false
set_option maxRecDepth 100000
set_option maxHeartbeats 2000000
namespace DL
open PySem PySem.Spec PyProof.Rows L2

/-! ### what is walked -/
structure Wk where
  n : Nat
  y : Nat → Sl
  G : MHp → Prop := fun _ => True
structure WalkD (K : PySem.W.Frag) (F : Hp) (J : It) (w : Wk) : Prop where
  goes : ∀ i F' M H, Same F F' → Hs K F' M H → w.G M → i < w.n → J.go i H
  stops : ∀ F' M H, Same F F' → Hs K F' M H → w.G M → J.stop w.n H
  yields : ∀ i F' M H x H', Same F F' → Hs K F' M H → w.G M → i < w.n → J.yld i H x H' → ∃ F'', Same F' F'' ∧ Hs K F'' M H' ∧ SlR K F'' x (w.y i)
theorem WalkD.mono {K : PySem.W.Frag} {F F1 : Hp} {J : It} {w : Wk} (h : WalkD K F J w) (e : Same F F1) : WalkD K F1 J w :=
  ⟨fun i F' M H e' => h.goes i F' M H (e.trans e'), fun F' M H e' => h.stops F' M H (e.trans e'), fun i F' M H x H' e' => h.yields i F' M H x H' (e.trans e')⟩
abbrev DI := MHp → List Sl → (MHp → Wk → Prop) → Prop
def FolI (K : PySem.W.Frag) (F : Hp) (post : MHp → Wk → Prop) (R : It → Hp → Prop) : Prop := ∀ M' w F' H' J, post M' w → Same F F' → Hs K F' M' H' → WalkD K F' J w → R J H'
def liftI (K : PySem.W.Frag) (ι : DI) : TI := fun σ H R => ∃ F M es post, Hs K F M H ∧ Env K F σ es ∧ ι M es post ∧ FolI K F post R
abbrev PDI (X : Cx) (tg iter : Expr) (ι : DI) : Prop := PI X tg iter (liftI X.K ι)
theorem piI {X : Cx} {tg e : Expr} {t t' : TI} (h : PI X tg e t) (hi : ∀ σ H Q, t' σ H Q → t σ H Q) : PI X tg e t' := ⟨fun pins s σ H Q I hq => h.run pins s σ H Q I (hi σ H Q hq)⟩
section
variable {X : Cx} {tg e a b l : Expr} {τ τa τb : DT} {pos p : Pos}
/-- over a list or a tuple -/
def iSeq (K : PySem.W.Frag) (tl : TE) : TI := fun σ H R => tl σ H fun x H1 => ∃ a, x = .ref a ∧ (((∃ xs, SqL K H1 a xs) ∧ R (Itl K a) H1) ∨ ((∃ xs, SqT K H1 a xs) ∧ R (Itt K a) H1))
theorem pi_seq {tl : TE} (hl : PE X l tl) : PI X tg l (iSeq X.K tl) := by
  refine ⟨fun pins s σ H R I h => ?_⟩
  refine thn (hl.run pins s σ H _ I h) fun v s1 ⟨x, H1, I1, r1, q1⟩ => ?_
  obtain ⟨a, e, q1⟩ := q1
  subst e
  cases r1
  have last : ∀ b ∈ [s1.heap.objs.size], FpOk X pins H1 b := fun b hb => by
    have e : b = s1.heap.objs.size := by simpa using hb
    subst e
    exact I1.fpOk (Nat.le_refl _) (I1.hok.fresh (Nat.le_refl _))
  rcases q1 with ⟨⟨xs, hq⟩, q⟩ | ⟨⟨xs, hq⟩, q⟩
  · obtain ⟨its, rv, p, hz⟩ := I1.list hq
    exact wpAny_pyIter_list p.isList ⟨s1.heap.objs.size, [s1.heap.objs.size], _, _, H1, rfl, I1.kept (t' := s1.toks) fun b o e => Heap.get?_push_of_some _ e, turn_list a _, ⟨_, Heap.get?_push_size _ rfl, rfl, rfl⟩, last, q⟩
  · obtain ⟨its, rv, p, hz⟩ := I1.tuple hq
    exact wpAny_pyIter_tuple (show s1.heap.IsTuple a its.toArray from p) ⟨s1.heap.objs.size, [s1.heap.objs.size], _, _, H1, rfl, I1.kept (t' := s1.toks) fun b o e => Heap.get?_push_of_some _ e, turn_tuple a _, ⟨_, Heap.get?_push_size _ rfl, rfl, rfl⟩, last, q⟩
theorem walk_of_list {K : PySem.W.Frag} {F : Hp} {a : Addr} {w : Wk} (h : ∀ F' M H, Same F F' → Hs K F' M H → w.G M → ∃ xs, SqL K H a xs ∧ xs.length = w.n ∧ ∀ (i : Nat) x, xs[i]? = some x → SlR K F' x (w.y i)) : WalkD K F (Itl K a) w where
  goes := fun i F' M H e hs hg hi => by
    obtain ⟨xs, h1, h2, h3⟩ := h F' M H e hs hg
    exact ⟨xs, xs[i]'(by omega), h1, by simp⟩
  stops := fun F' M H e hs hg => by
    obtain ⟨xs, h1, h2, h3⟩ := h F' M H e hs hg
    exact ⟨xs, h1, by omega⟩
  yields := fun i F' M H x H' e hs hg hi hy => by
    obtain ⟨xs, h1, h2, h3⟩ := h F' M H e hs hg
    obtain ⟨rfl, hy⟩ := hy
    exact ⟨F', Same.refl F', hs, h3 i x (hy xs h1)⟩
theorem walk_of_tup {K : PySem.W.Frag} {F : Hp} {a : Addr} {w : Wk} (h : ∀ F' M H, Same F F' → Hs K F' M H → w.G M → ∃ xs, SqT K H a xs ∧ xs.length = w.n ∧ ∀ (i : Nat) x, xs[i]? = some x → SlR K F' x (w.y i)) : WalkD K F (Itt K a) w where
  goes := fun i F' M H e hs hg hi => by
    obtain ⟨xs, h1, h2, h3⟩ := h F' M H e hs hg
    exact ⟨xs, xs[i]'(by omega), h1, by simp⟩
  stops := fun F' M H e hs hg => by
    obtain ⟨xs, h1, h2, h3⟩ := h F' M H e hs hg
    exact ⟨xs, h1, by omega⟩
  yields := fun i F' M H x H' e hs hg hi hy => by
    obtain ⟨xs, h1, h2, h3⟩ := h F' M H e hs hg
    obtain ⟨rfl, hy⟩ := hy
    exact ⟨F', Same.refl F', hs, h3 i x (hy xs h1)⟩
abbrev wkD (ds : List PyData) : Wk := ⟨ds.length, fun i => .d (ds.getD i .none), fun _ => True⟩
def wkM (a : Addr) (ss : List Sl) : Wk := ⟨ss.length, fun i => ss.getD i .n, fun M => M a = some (.lst ss)⟩
def ρWk (s : Sl) (M : MHp) (post : MHp → Wk → Prop) : Prop := match s with
  | .d (.list ds) => post M (wkD ds)
  | .d (.tuple ds) => post M (wkD ds)
  | .s ns => post M (wkD (ns.map PyData.int))
  | .m a => ∃ ss, M a = some (.lst ss) ∧ post M (wkM a ss)
  | .t ss => post M ⟨ss.length, fun i => ss.getD i .n, fun _ => True⟩
  | _ => False
theorem dqa_at {F : Hp} : ∀ {vs : List V} {ds : List PyData}, DqA F vs ds → ∀ (i : Nat) (x : V), vs[i]? = some x → Dq F x (ds.getD i .none)
  | _, _, .nil, _, _, e => by simp at e
  | _, _, .cons h _, 0, _, e => by simp at e; subst e; exact h
  | _, _, .cons _ r, i + 1, x, e => dqa_at r i x (by simpa using e)
theorem sls_at {K : PySem.W.Frag} {F : Hp} : ∀ {vs : List V} {ss : List Sl}, SlsR K F vs ss → ∀ (i : Nat) (x : V), vs[i]? = some x → SlR K F x (ss.getD i .n)
  | _, _, .nil, _, _, e => by simp at e
  | _, _, .cons h _, 0, _, e => by simp at e; subst e; exact h
  | _, _, .cons _ r, i + 1, x, e => sls_at r i x (by simpa using e)
theorem walk_wk {K : PySem.W.Frag} {F : Hp} {M : MHp} {H : Hp} {s : Sl} {v : V} {post : MHp → Wk → Prop} (hs : Hs K F M H) (r : SlR K F v s) (h : ρWk s M post) :
    ∃ a w, v = .ref a ∧ post M w ∧ (((∃ xs, SqL K H a xs) ∧ WalkD K F (Itl K a) w) ∨ ((∃ xs, SqT K H a xs) ∧ WalkD K F (Itt K a) w)) := by
  unfold ρWk at h
  split at h
  · obtain ⟨a, vs, rfl, h1, h2⟩ := dq_lst r
    refine ⟨a, _, rfl, h, .inl ⟨⟨vs, SqL.of (hs.ex _ _ h1)⟩, walk_of_list fun F' M' H' e hs' _ => ⟨vs, SqL.of (hs'.ex _ _ (e _ _ h1)), h2.length, fun i x hx => ?_⟩⟩⟩
    exact Dq.mono e _ _ (dqa_at h2 i x hx)
  · obtain ⟨a, vs, rfl, h1, h2⟩ := dq_tup r
    refine ⟨a, _, rfl, h, .inr ⟨⟨vs, SqT.of (hs.ex _ _ h1)⟩, walk_of_tup fun F' M' H' e hs' _ => ⟨vs, SqT.of (hs'.ex _ _ (e _ _ h1)), h2.length, fun i x hx => ?_⟩⟩⟩
    exact Dq.mono e _ _ (dqa_at h2 i x hx)
  · obtain ⟨a, rfl, h1⟩ := r
    refine ⟨a, _, rfl, h, .inl ⟨⟨_, sq_same hs.ex h1⟩, walk_of_list fun F' M' H' e hs' _ => ⟨_, sq_same hs'.ex (sq_same e h1), by simp, fun i x hx => ?_⟩⟩⟩
    exact dqa_at (dqa_ints _) i x hx
  · obtain ⟨ss, hM, hp⟩ := h
    obtain ⟨vs, h1, h2⟩ := hs.lst hM
    refine ⟨_, _, r, hp, .inl ⟨⟨vs, SqL.of h1⟩, walk_of_list fun F' M' H' e hs' hg => ?_⟩⟩
    obtain ⟨ws, h3, h4⟩ := hs'.lst (show M' _ = some (.lst ss) from hg)
    exact ⟨ws, SqL.of h3, Paired.len' h4, fun i x hx => sls_at h4 i x hx⟩
  · obtain ⟨a, vs, rfl, h1, h2⟩ := r
    refine ⟨a, _, rfl, h, .inr ⟨⟨vs, SqT.of (hs.ex _ _ h1)⟩, walk_of_tup fun F' M' H' e hs' _ => ⟨vs, SqT.of (hs'.ex _ _ (e _ _ h1)), Paired.len' (tta_sls h2), fun i x hx => ?_⟩⟩⟩
    exact sls_at ((tta_sls h2).mono e) i x hx
  · exact h.elim
def dIn (τ : DT) : DI := fun M es post => τ M es fun M1 s => ρWk s M1 post
theorem pdi_seq (hl : PD X l τ) : PDI X tg l (dIn τ) := piI (pi_seq hl) fun σ H R hq => by
  obtain ⟨F, M, es, post, hs, he, ht, hf⟩ := hq
  refine ⟨F, M, es, _, hs, he, ht, fun M1 s F1 H1 v p1 e1 hs1 r1 => ?_⟩
  obtain ⟨a, w, rfl, hp, h⟩ := walk_wk hs1 r1 p1
  refine ⟨a, rfl, ?_⟩
  rcases h with ⟨h1, h2⟩ | ⟨h1, h2⟩
  · exact .inl ⟨h1, hf _ w F1 H1 _ hp e1 hs1 h2⟩
  · exact .inr ⟨h1, hf _ w F1 H1 _ hp e1 hs1 h2⟩
/-- range(n), range(lo, hi) -/
abbrev wkR (lo : Int) (n : Nat) : Wk := ⟨n, fun i => .d (.int (lo + i)), fun _ => True⟩
theorem walk_rng {K : PySem.W.Frag} {F : Hp} {lo : Int} {n : Nat} : WalkD K F (Itr lo n) (wkR lo n) where
  goes := fun i F' M H e hs hg hi => hi
  stops := fun F' M H e hs hg => Nat.le_refl _
  yields := fun i F' M H x H' e hs hg hi hy => by
    obtain ⟨rfl, rfl⟩ := hy
    exact ⟨F', Same.refl F', hs, .int _⟩
def dRng1 (α : DA) : DI := fun M es post => α M es fun M1 ss => ∃ j, ss = [.d (.int j)] ∧ (-(2 ^ 62) ≤ j ∧ j < 2 ^ 62) ∧ post M1 (wkR 0 j.toNat)
def dRng2 (α : DA) : DI := fun M es post => α M es fun M1 ss => ∃ i j, ss = [.d (.int i), .d (.int j)] ∧ (-(2 ^ 62) ≤ i ∧ i < 2 ^ 62 ∧ -(2 ^ 62) ≤ j ∧ j < 2 ^ 62) ∧ post M1 (wkR i (j - i).toNat)
theorem sls1 {K : PySem.W.Frag} {F : Hp} {vs : List V} {s : Sl} (h : SlsR K F vs [s]) : ∃ v, vs = [v] ∧ SlR K F v s := by
  cases h with | cons h r => cases r; exact ⟨_, rfl, h⟩
theorem sls2 {K : PySem.W.Frag} {F : Hp} {vs : List V} {s t : Sl} (h : SlsR K F vs [s, t]) : ∃ v w, vs = [v, w] ∧ SlR K F v s ∧ SlR K F w t := by
  cases h with
  | cons h r =>
    cases r with
    | cons h2 r => cases r; exact ⟨_, _, rfl, h, h2⟩
theorem pdi_range1 {a : Expr} {α : DA} (hg : Gl X "range") (hm : X.mg "range" = none) (ha : PDA X [a] α) (hs : starEach [a] X.env = [(false, eval a X.env)] := by rfl) : PDI X tg (.Call (.Name "range" p) [a] [] pos) (dRng1 α) := piI (pi_range1 hg hm ha hs) fun σ H R hq => by
  obtain ⟨F, M, es, post, hs, he, ht, hf⟩ := hq
  refine ⟨F, M, es, _, hs, he, ht, fun M1 ss F1 H1 vs p1 e1 hs1 r1 => ?_⟩
  obtain ⟨j, rfl, ⟨h1, h2⟩, hp⟩ := p1
  obtain ⟨v, rfl, r⟩ := sls1 r1
  exact ⟨j, by rw [dq_int r], h1, h2, hf _ _ F1 H1 _ hp e1 hs1 walk_rng⟩
theorem pdi_range2 {a b : Expr} {α : DA} (hg : Gl X "range") (hm : X.mg "range" = none) (ha : PDA X [a, b] α) (hs : starEach [a, b] X.env = [(false, eval a X.env), (false, eval b X.env)] := by rfl) (hs2 : starEach [b] X.env = [(false, eval b X.env)] := by rfl) : PDI X tg (.Call (.Name "range" p) [a, b] [] pos) (dRng2 α) := piI (pi_range2 hg hm ha hs hs2) fun σ H R hq => by
  obtain ⟨F, M, es, post, hs, he, ht, hf⟩ := hq
  refine ⟨F, M, es, _, hs, he, ht, fun M1 ss F1 H1 vs p1 e1 hs1 r1 => ?_⟩
  obtain ⟨i, j, rfl, h1, hp⟩ := p1
  obtain ⟨v, w, rfl, r, r'⟩ := sls2 r1
  exact ⟨i, j, by rw [dq_int r, dq_int r'], h1, hf _ _ F1 H1 _ hp e1 hs1 walk_rng⟩
/-- enumerate, zip of lists of data -/
def LsOf (M : MHp) (s : Sl) (ds : List PyData) : Prop := LstOf M s ds ∨ ∃ ns : List Int, s = .s ns ∧ ds = ns.map PyData.int
/-- that the list stays -/
def LsStay (s : Sl) (ds : List PyData) (M : MHp) : Prop := match s with
  | .m a => M a = some (.lst (ds.map Sl.d))
  | _ => True
theorem LsOf.walk {K : PySem.W.Frag} {F : Hp} {M : MHp} {H : Hp} {s : Sl} {v : V} {ds : List PyData} (h : LsOf M s ds) (hs : Hs K F M H) (r : SlR K F v s) :
    ∃ a xs, v = .ref a ∧ SqL K H a xs ∧ ∀ F' M' H', Same F F' → Hs K F' M' H' → LsStay s ds M' → ∃ xs, SqL K H' a xs ∧ DqA F' xs ds := by
  rcases h with h | ⟨ns, rfl, rfl⟩
  · obtain ⟨a, vs, h0, h1, h2⟩ := h.at hs r
    refine ⟨a, vs, h0, SqL.of h1, fun F' M' H' e hs' hst => ?_⟩
    cases s with
    | n => exact h.elim
    | s _ => exact h.elim
    | t _ => exact h.elim
    | c _ => exact h.elim
    | o _ _ => exact h.elim
    | f _ => exact h.elim
    | m b =>
      obtain ⟨ws, h3, h4⟩ := hs'.lst (show M' b = _ from hst)
      have : V.ref a = .ref b := h0.symm.trans r
      cases this
      exact ⟨ws, SqL.of h3, sls_data h4⟩
    | d x =>
      cases x with
      | list es =>
        have h : es = ds := h
        subst h
        obtain ⟨a', vs', h5, h6, h7⟩ := dq_lst r
        have : V.ref a = .ref a' := h0.symm.trans h5
        cases this
        exact ⟨vs', SqL.of (hs'.ex _ _ (e _ _ h6)), h7.mono e⟩
      | _ => exact h.elim
  · obtain ⟨a, h0, h1⟩ := r
    exact ⟨a, _, h0, sq_same hs.ex h1, fun F' M' H' e hs' _ => ⟨_, sq_same hs'.ex (sq_same e h1), dqa_ints _⟩⟩
def dEnum (α : DA) : DI := fun M es post => α M es fun M1 ss => ∃ s ds, ss = [s] ∧ LsOf M1 s ds ∧ post M1 ⟨ds.length, fun i => .d (.tuple [.int (i : Nat), ds.getD i .none]), LsStay s ds⟩
theorem pdi_enum {a : Expr} {α : DA} {elts : List Expr} {kk : Nat} {tpos : Pos} (hg : Gl X "enumerate") (hm : X.mg "enumerate" = none) (ha : PDA X [a] α) (hst : starEach [a] X.env = [(false, eval a X.env)] := by rfl) : PDI X (.Tuple elts kk tpos) (.Call (.Name "enumerate" p) [a] [] pos) (dEnum α) := piI (pi_enum hg hm ha hst) fun σ H R hq => by
  obtain ⟨F, M, es, post, hs, he, ht, hf⟩ := hq
  refine ⟨F, M, es, _, hs, he, ht, fun M1 ss F1 H1 vs p1 e1 hs1 r1 => ?_⟩
  obtain ⟨s, ds, rfl, h1, hp⟩ := p1
  obtain ⟨v, rfl, r⟩ := sls1 r1
  obtain ⟨a, xs, rfl, h2, h3⟩ := h1.walk hs1 r
  refine ⟨a, xs, rfl, h2, hf _ _ F1 H1 _ hp e1 hs1 ⟨fun i F' M' H' e hs' hg hi => ?_, fun F' M' H' e hs' hg => ?_, fun i F' M' H' x H'' e hs' hg hi hy => ?_⟩⟩
  · obtain ⟨ys, h4, h5⟩ := h3 F' M' H' e hs' hg
    have := h5.length
    have hi : i < ds.length := hi
    exact ⟨ys, ys[i]'(by omega), h4, by simp⟩
  · obtain ⟨ys, h4, h5⟩ := h3 F' M' H' e hs' hg
    exact ⟨ys, h4, Nat.le_of_eq h5.length⟩
  · obtain ⟨ys, h4, h5⟩ := h3 F' M' H' e hs' hg
    obtain ⟨T, y, rfl, nT, rfl, hy⟩ := hy
    obtain ⟨e2, hs2⟩ := hs'.newD (o := .tup [.int (i : Nat), y]) nT
    exact ⟨_, e2, hs2, .tup upd_same (.cons (.int _) (.cons (Dq.mono e2 _ _ (dqa_at h5 i y (hy ys h4))) .nil))⟩
def dZip (α : DA) : DI := fun M es post => α M es fun M1 ss => ∃ s t ds fs, ss = [s, t] ∧ ((LsOf M1 s ds ∧ LsOf M1 t fs) ∨ (s = .d (.tuple ds) ∧ t = .d (.tuple fs))) ∧ post M1 ⟨min ds.length fs.length, fun i => .d (.tuple [ds.getD i .none, fs.getD i .none]), fun M => LsStay s ds M ∧ LsStay t fs M⟩
theorem pdi_zip {a b : Expr} {α : DA} {elts : List Expr} {kk : Nat} {tpos : Pos} (hg : Gl X "zip") (hm : X.mg "zip" = none) (ha : PDA X [a, b] α) (hst : starEach [a, b] X.env = (false, eval a X.env) :: starEach [b] X.env := by rfl) (hpl : (backTo pos (starEach [b] X.env)).any (·.1) = false := by rfl) : PDI X (.Tuple elts kk tpos) (.Call (.Name "zip" p) [a, b] [] pos) (dZip α) := piI (RZ.pi_zipA hg hm ha hst hpl) fun σ H R hq => by
  obtain ⟨F, M, es, post, hs, he, ht, hf⟩ := hq
  refine ⟨F, M, es, _, hs, he, ht, fun M1 ss F1 H1 vs p1 e1 hs1 r1 => ?_⟩
  obtain ⟨s, t, ds, fs, rfl, h11, hp⟩ := p1
  obtain ⟨v, w, rfl, r, r'⟩ := sls2 r1
  rcases h11 with ⟨h1, h1'⟩ | ⟨rfl, rfl⟩
  · obtain ⟨a, xs, rfl, h2, h3⟩ := h1.walk hs1 r
    obtain ⟨b, xs', rfl, h2', h3'⟩ := h1'.walk hs1 r'
    refine ⟨a, b, xs, xs', rfl, .inl ⟨h2, h2', hf _ _ F1 H1 _ hp e1 hs1 ⟨fun i F' M' H' e hs' hg hi => ?_, fun F' M' H' e hs' hg => ?_, fun i F' M' H' x H'' e hs' hg hi hy => ?_⟩⟩⟩
    · obtain ⟨ys, h4, h5⟩ := h3 F' M' H' e hs' hg.1
      obtain ⟨zs, h4', h5'⟩ := h3' F' M' H' e hs' hg.2
      have l1 := h5.length
      have l2 := h5'.length
      have hi : i < min ds.length fs.length := hi
      exact ⟨ys, zs, ys[i]'(by omega), zs[i]'(by omega), h4, h4', by simp, by simp⟩
    · obtain ⟨ys, h4, h5⟩ := h3 F' M' H' e hs' hg.1
      obtain ⟨zs, h4', h5'⟩ := h3' F' M' H' e hs' hg.2
      have l1 := h5.length
      have l2 := h5'.length
      exact ⟨ys, zs, h4, h4', by show _ ≤ min ds.length fs.length ∨ _ ≤ min ds.length fs.length; omega⟩
    · obtain ⟨ys, h4, h5⟩ := h3 F' M' H' e hs' hg.1
      obtain ⟨zs, h4', h5'⟩ := h3' F' M' H' e hs' hg.2
      obtain ⟨T, y, z, rfl, nT, rfl, hy, hz⟩ := hy
      obtain ⟨e2, hs2⟩ := hs'.newD (o := .tup [y, z]) nT
      exact ⟨_, e2, hs2, .tup upd_same (.cons (Dq.mono e2 _ _ (dqa_at h5 i y (hy ys h4))) (.cons (Dq.mono e2 _ _ (dqa_at h5' i z (hz zs h4'))) .nil))⟩
  · obtain ⟨a, xs, rfl, h2, h3⟩ := dq_tup r
    obtain ⟨b, xs', rfl, h2', h3'⟩ := dq_tup r'
    have l1 := h3.length
    have l2 := h3'.length
    refine ⟨a, b, xs, xs', rfl, .inr ⟨SqT.of (hs1.ex _ _ h2), SqT.of (hs1.ex _ _ h2'), hf _ _ F1 H1 _ hp e1 hs1 ⟨fun i F' M' H' e hs' hg hi => ?_, fun F' M' H' e hs' hg => ?_, fun i F' M' H' x H'' e hs' hg hi hy => ?_⟩⟩⟩
    · have hi : i < min ds.length fs.length := hi
      exact ⟨xs, xs', xs[i]'(by omega), xs'[i]'(by omega), SqT.of (hs'.ex _ _ (e _ _ h2)), SqT.of (hs'.ex _ _ (e _ _ h2')), by simp, by simp⟩
    · exact ⟨xs, xs', SqT.of (hs'.ex _ _ (e _ _ h2)), SqT.of (hs'.ex _ _ (e _ _ h2')), by show _ ≤ min ds.length fs.length ∨ _ ≤ min ds.length fs.length; omega⟩
    · obtain ⟨T, y, z, rfl, nT, rfl, hy, hz⟩ := hy
      obtain ⟨e2, hs2⟩ := hs'.newD (o := .tup [y, z]) nT
      exact ⟨_, e2, hs2, .tup upd_same (.cons (Dq.mono (e.trans e2) _ _ (dqa_at h3 i y (hy xs (SqT.of (hs'.ex _ _ (e _ _ h2)))))) (.cons (Dq.mono (e.trans e2) _ _ (dqa_at h3' i z (hz xs' (SqT.of (hs'.ex _ _ (e _ _ h2')))))) .nil))⟩
/-- enumerate, zip of lists of anything: the pairs as tuples of slots -/
def LsS (M : MHp) (s : Sl) (ss : List Sl) : Prop := match s with
  | .d (.list ds) => ss = ds.map Sl.d
  | .m a => M a = some (.lst ss)
  | .s ns => ss = (ns.map PyData.int).map Sl.d
  | _ => False
def LsSt (s : Sl) (ss : List Sl) (M : MHp) : Prop := match s with
  | .m a => M a = some (.lst ss)
  | _ => True
theorem LsS.walk {K : PySem.W.Frag} {F : Hp} {M : MHp} {H : Hp} {s : Sl} {v : V} {ss : List Sl} (h : LsS M s ss) (hs : Hs K F M H) (r : SlR K F v s) :
    ∃ a xs, v = .ref a ∧ SqL K H a xs ∧ ∀ F' M' H', Same F F' → Hs K F' M' H' → LsSt s ss M' → ∃ xs, SqL K H' a xs ∧ SlsR K F' xs ss := by
  cases s with
  | n => exact h.elim
  | t _ => exact h.elim
  | c _ => exact h.elim
  | o _ _ => exact h.elim
  | f _ => exact h.elim
  | s ns =>
    have h : ss = (ns.map PyData.int).map Sl.d := h
    subst h
    obtain ⟨a, h0, h1⟩ := r
    exact ⟨a, _, h0, sq_same hs.ex h1, fun F' M' H' e hs' _ => ⟨_, sq_same hs'.ex (sq_same e h1), data_sls (dqa_ints _)⟩⟩
  | m b =>
    obtain ⟨vs, h1, h2⟩ := hs.lst h
    refine ⟨b, vs, r, SqL.of h1, fun F' M' H' e hs' hst => ?_⟩
    obtain ⟨ws, h3, h4⟩ := hs'.lst (show M' b = _ from hst)
    exact ⟨ws, SqL.of h3, h4⟩
  | d x =>
    cases x with
    | list ds =>
      have h : ss = ds.map Sl.d := h
      subst h
      obtain ⟨a, vs, rfl, h1, h2⟩ := dq_lst r
      exact ⟨a, vs, rfl, SqL.of (hs.ex _ _ h1), fun F' M' H' e hs' _ => ⟨vs, SqL.of (hs'.ex _ _ (e _ _ h1)), data_sls (h2.mono e)⟩⟩
    | _ => exact h.elim
def dEnumS (α : DA) : DI := fun M es post => α M es fun M1 ss => ∃ s us, ss = [s] ∧ LsS M1 s us ∧ post M1 ⟨us.length, fun i => .t [.d (.int (i : Nat)), us.getD i .n], LsSt s us⟩
theorem pdi_enumS {a : Expr} {α : DA} {elts : List Expr} {kk : Nat} {tpos : Pos} (hg : Gl X "enumerate") (hm : X.mg "enumerate" = none) (ha : PDA X [a] α) (hst : starEach [a] X.env = [(false, eval a X.env)] := by rfl) : PDI X (.Tuple elts kk tpos) (.Call (.Name "enumerate" p) [a] [] pos) (dEnumS α) := piI (pi_enum hg hm ha hst) fun σ H R hq => by
  obtain ⟨F, M, es, post, hs, he, ht, hf⟩ := hq
  refine ⟨F, M, es, _, hs, he, ht, fun M1 ss F1 H1 vs p1 e1 hs1 r1 => ?_⟩
  obtain ⟨s, us, rfl, h1, hp⟩ := p1
  obtain ⟨v, rfl, r⟩ := sls1 r1
  obtain ⟨a, xs, rfl, h2, h3⟩ := h1.walk hs1 r
  refine ⟨a, xs, rfl, h2, hf _ _ F1 H1 _ hp e1 hs1 ⟨fun i F' M' H' e hs' hg hi => ?_, fun F' M' H' e hs' hg => ?_, fun i F' M' H' x H'' e hs' hg hi hy => ?_⟩⟩
  · obtain ⟨ys, h4, h5⟩ := h3 F' M' H' e hs' hg
    have := Paired.len' h5
    have hi : i < us.length := hi
    exact ⟨ys, ys[i]'(by omega), h4, by simp⟩
  · obtain ⟨ys, h4, h5⟩ := h3 F' M' H' e hs' hg
    exact ⟨ys, h4, Nat.le_of_eq (Paired.len' h5)⟩
  · obtain ⟨ys, h4, h5⟩ := h3 F' M' H' e hs' hg
    obtain ⟨T, y, rfl, nT, rfl, hy⟩ := hy
    obtain ⟨e2, hs2⟩ := hs'.newD (o := .tup [.int (i : Nat), y]) nT
    exact ⟨_, e2, hs2, T, _, rfl, upd_same, .cons (.d (.int _)) (.cons (TtR.mono e2 _ _ (sls_at h5 i y (hy ys h4)).tt) .nil)⟩
def dZipS (α : DA) : DI := fun M es post => α M es fun M1 ss => ∃ s t us ws, ss = [s, t] ∧ ((LsS M1 s us ∧ LsS M1 t ws) ∨ ∃ ds fs, s = .d (.tuple ds) ∧ t = .d (.tuple fs) ∧ us = ds.map Sl.d ∧ ws = fs.map Sl.d) ∧ post M1 ⟨min us.length ws.length, fun i => .t [us.getD i .n, ws.getD i .n], fun M => LsSt s us M ∧ LsSt t ws M⟩
theorem pdi_zipS {a b : Expr} {α : DA} {elts : List Expr} {kk : Nat} {tpos : Pos} (hg : Gl X "zip") (hm : X.mg "zip" = none) (ha : PDA X [a, b] α) (hst : starEach [a, b] X.env = (false, eval a X.env) :: starEach [b] X.env := by rfl) (hpl : (backTo pos (starEach [b] X.env)).any (·.1) = false := by rfl) : PDI X (.Tuple elts kk tpos) (.Call (.Name "zip" p) [a, b] [] pos) (dZipS α) := piI (RZ.pi_zipA hg hm ha hst hpl) fun σ H R hq => by
  obtain ⟨F, M, es, post, hs, he, ht, hf⟩ := hq
  refine ⟨F, M, es, _, hs, he, ht, fun M1 ss F1 H1 vs p1 e1 hs1 r1 => ?_⟩
  obtain ⟨s, t, us, ws, rfl, h11, hp⟩ := p1
  obtain ⟨v, w, rfl, r, r'⟩ := sls2 r1
  rcases h11 with ⟨h1, h1'⟩ | ⟨ds, fs, rfl, rfl, rfl, rfl⟩
  · obtain ⟨a, xs, rfl, h2, h3⟩ := h1.walk hs1 r
    obtain ⟨b, xs', rfl, h2', h3'⟩ := h1'.walk hs1 r'
    refine ⟨a, b, xs, xs', rfl, .inl ⟨h2, h2', hf _ _ F1 H1 _ hp e1 hs1 ⟨fun i F' M' H' e hs' hg hi => ?_, fun F' M' H' e hs' hg => ?_, fun i F' M' H' x H'' e hs' hg hi hy => ?_⟩⟩⟩
    · obtain ⟨ys, h4, h5⟩ := h3 F' M' H' e hs' hg.1
      obtain ⟨zs, h4', h5'⟩ := h3' F' M' H' e hs' hg.2
      have l1 := Paired.len' h5
      have l2 := Paired.len' h5'
      have hi : i < min us.length ws.length := hi
      exact ⟨ys, zs, ys[i]'(by omega), zs[i]'(by omega), h4, h4', by simp, by simp⟩
    · obtain ⟨ys, h4, h5⟩ := h3 F' M' H' e hs' hg.1
      obtain ⟨zs, h4', h5'⟩ := h3' F' M' H' e hs' hg.2
      have l1 := Paired.len' h5
      have l2 := Paired.len' h5'
      exact ⟨ys, zs, h4, h4', by show _ ≤ min us.length ws.length ∨ _ ≤ min us.length ws.length; omega⟩
    · obtain ⟨ys, h4, h5⟩ := h3 F' M' H' e hs' hg.1
      obtain ⟨zs, h4', h5'⟩ := h3' F' M' H' e hs' hg.2
      obtain ⟨T, y, z, rfl, nT, rfl, hy, hz⟩ := hy
      obtain ⟨e2, hs2⟩ := hs'.newD (o := .tup [y, z]) nT
      exact ⟨_, e2, hs2, T, _, rfl, upd_same, .cons (TtR.mono e2 _ _ (sls_at h5 i y (hy ys h4)).tt) (.cons (TtR.mono e2 _ _ (sls_at h5' i z (hz zs h4')).tt) .nil)⟩
  · obtain ⟨a, xs, rfl, h2, h3⟩ := dq_tup r
    obtain ⟨b, xs', rfl, h2', h3'⟩ := dq_tup r'
    have l1 := h3.length
    have l2 := h3'.length
    refine ⟨a, b, xs, xs', rfl, .inr ⟨SqT.of (hs1.ex _ _ h2), SqT.of (hs1.ex _ _ h2'), hf _ _ F1 H1 _ hp e1 hs1 ⟨fun i F' M' H' e hs' hg hi => ?_, fun F' M' H' e hs' hg => ?_, fun i F' M' H' x H'' e hs' hg hi hy => ?_⟩⟩⟩
    · have hi : i < min (ds.map Sl.d).length (fs.map Sl.d).length := hi
      rw [List.length_map, List.length_map] at hi
      exact ⟨xs, xs', xs[i]'(by omega), xs'[i]'(by omega), SqT.of (hs'.ex _ _ (e _ _ h2)), SqT.of (hs'.ex _ _ (e _ _ h2')), by simp, by simp⟩
    · exact ⟨xs, xs', SqT.of (hs'.ex _ _ (e _ _ h2)), SqT.of (hs'.ex _ _ (e _ _ h2')), by show _ ≤ min (ds.map Sl.d).length (fs.map Sl.d).length ∨ _ ≤ min (ds.map Sl.d).length (fs.map Sl.d).length; rw [List.length_map, List.length_map]; omega⟩
    · obtain ⟨T, y, z, rfl, nT, rfl, hy, hz⟩ := hy
      obtain ⟨e2, hs2⟩ := hs'.newD (o := .tup [y, z]) nT
      have q1 := sls_at (data_sls (K := X.K) (h3.mono (e.trans e2))) i y (hy xs (SqT.of (hs'.ex _ _ (e _ _ h2))))
      have q2 := sls_at (data_sls (K := X.K) (h3'.mono (e.trans e2))) i z (hz xs' (SqT.of (hs'.ex _ _ (e _ _ h2'))))
      exact ⟨_, e2, hs2, T, _, rfl, upd_same, .cons q1.tt (.cons q2.tt .nil)⟩

/-! ### for -/
def dFor (ι : DI) (t : Tg) (ς : DS) : DS := fun D M es => ι M es fun M1 w => ∃ P : Nat → MHp → List Sl → Prop, P 0 M1 es ∧ (∀ i M es, i ≤ w.n → P i M es → w.G M) ∧
  (∀ i M es, i < w.n → P i M es → t.set (w.y i) M es fun es2 => ς { D with nx := P (i + 1), ct := P (i + 1), bk := D.nx } M es2) ∧ ∀ M es, P w.n M es → D.nx M es
theorem pds_for {iter : Expr} {body : List Stmt} {ι : DI} {t : Tg} {ς : DS} (hp : PassesOwn (model X.prog X.w) X.A X.env X.xe) (hc : X.calm = true) (hi : PDI X tg iter ι) (hg : PDG X tg t) (hb : PDSs X body ς) (hs : ∀ x, foldedSetIterable iter X.env x = pure x := by intro _; rfl) : PDS X (.For tg iter body [] pos) (dFor ι t ς) := psI (ps_for hp hc hi hg hb hs) fun D σ H hq => by
  obtain ⟨F, M, es, D', hs, he, ht, hf⟩ := hq
  refine ⟨F, M, es, _, hs, he, ht, fun M1 w F1 H1 J p1 e1 hs1 hw => ?_⟩
  obtain ⟨P, h0, hG, hst, hd⟩ := p1
  refine ⟨fun i m σ H => m = w.n - i ∧ i ≤ w.n ∧ ∃ F' M es, Same F1 F' ∧ Hs X.K F' M H ∧ Env X.K F' σ es ∧ P i M es, ⟨w.n, by simp, Nat.zero_le _, F1, M1, es, Same.refl F1, hs1, he.mono e1, h0⟩, ?_⟩
  rintro i m σ' H' ⟨rfl, hi, F2, M2, es2, e2, hs2, he2, h2⟩
  have hg2 := hG i M2 es2 hi h2
  by_cases hlt : i < w.n
  · refine .inr ⟨hw.goes i F2 M2 H' e2 hs2 hg2 hlt, fun σ H => ∃ F' M es, Same F1 F' ∧ Hs X.K F' M H ∧ Env X.K F' σ es ∧ P (i + 1) M es, fun σ3 H3 p3 => ⟨w.n - (i + 1), by omega, rfl, hlt, p3⟩, fun x H3 hy => ?_⟩
    obtain ⟨F3, e3, hs3, r3⟩ := hw.yields i F2 M2 H' x H3 e2 hs2 hg2 hlt hy
    refine Tg.lift hs3 (he2.mono e3) r3 (hst i M2 es2 hlt h2) fun σ4 es4 he4 hk => ?_
    have e13 : Same F1 F3 := e2.trans e3
    have hf3 := (hf.mono e1).mono e13
    exact ⟨F3, M2, es4, _, hs3, he4, hk, ⟨fun M5 es5 F5 σ5 H5 p5 e5 hs5 he5 => ⟨F5, M5, es5, e13.trans e5, hs5, he5, p5⟩, hf3.rt, hf3.nx, fun M5 es5 F5 σ5 H5 p5 e5 hs5 he5 => ⟨F5, M5, es5, e13.trans e5, hs5, he5, p5⟩⟩⟩
  · have e : i = w.n := by omega
    subst e
    exact .inl ⟨hw.stops F2 M2 H' e2 hs2 hg2, hf.nx _ _ F2 _ _ (hd M2 es2 h2) (e1.trans e2) hs2 he2⟩
/-- while -/
def dWhile (θ : DTT) (ς : DS) : DS := fun D M es => ∃ P : Nat → MHp → List Sl → Prop, (∃ m, P m M es) ∧ ∀ m M es, P m M es → θ M es fun M1 b => if b = true then ς { D with nx := fun M' es' => ∃ m', m' < m ∧ P m' M' es', ct := fun M' es' => ∃ m', m' < m ∧ P m' M' es', bk := D.nx } M1 es else D.nx M1 es
theorem pds_while {c : Expr} {body : List Stmt} {θ : DTT} {ς : DS} (hp : PassesOwn (model X.prog X.w) X.A X.env X.xe) (hc : PDT X c θ) (hb : PDSs X body ς) : PDS X (.While c body [] pos) (dWhile θ ς) := psI (ps_while hp hc hb) fun D σ H hq => by
  obtain ⟨F, M, es, D', hs, he, ⟨P, ⟨m0, h0⟩, ht⟩, hf⟩ := hq
  refine ⟨fun m σ H => ∃ F' M es, Same F F' ∧ Hs X.K F' M H ∧ Env X.K F' σ es ∧ P m M es, ⟨m0, F, M, es, Same.refl F, hs, he, h0⟩, ?_⟩
  rintro m σ1 H1 ⟨F1, M1, es1, e1, hs1, he1, h1⟩
  refine ⟨F1, M1, es1, _, hs1, he1, ht m M1 es1 h1, fun M2 k F2 H2 p2 e2 hs2 => ?_⟩
  have e12 : Same F F2 := e1.trans e2
  cases k with
  | true =>
    have p2 := p2
    rw [if_pos rfl] at p2
    refine iteT ?_
    refine ⟨fun σ H => ∃ m', m' < m ∧ ∃ F' M es, Same F F' ∧ Hs X.K F' M H ∧ Env X.K F' σ es ∧ P m' M es, fun σ' H' q => q, F2, M2, es1, _, hs2, he1.mono e2, p2, ⟨fun M5 es5 F5 σ5 H5 p5 e5 hs5 he5 => ?_, (hf.mono e12).rt, (hf.mono e12).nx, fun M5 es5 F5 σ5 H5 p5 e5 hs5 he5 => ?_⟩⟩
    · obtain ⟨m', hm, p5⟩ := p5; exact ⟨m', hm, F5, M5, es5, e12.trans e5, hs5, he5, p5⟩
    · obtain ⟨m', hm, p5⟩ := p5; exact ⟨m', hm, F5, M5, es5, e12.trans e5, hs5, he5, p5⟩
  | false =>
    rw [if_neg Bool.false_ne_true] at p2
    refine iteF ?_
    exact hf.nx _ _ F2 _ _ p2 e12 hs2 (he1.mono e2)
end
end DL
set_option Elab.async false
set_option autoImplicit false
set_option linter.all false
set_option maxRecDepth 100000
set_option maxHeartbeats 2000000
namespace DL
open PySem PySem.Spec PyProof.Rows L2

/-! ### comprehensions -/
theorem wipe_set {i : Nat} {o : Option V} : ∀ {vs : List Nat} {σ : L2.St}, wipe (σ.set i o) vs = if i ∈ vs then wipe σ vs else (wipe σ vs).set i o
  | [], σ => by simp [wipe]
  | v :: vs, σ => by
    have ih := wipe_set (i := i) (o := o) (vs := vs) (σ := σ)
    unfold wipe
    rw [ih]
    by_cases h : i ∈ vs
    · rw [if_pos h, if_pos (List.mem_cons_of_mem _ h)]
    · rw [if_neg h]
      by_cases hv : i = v
      · subst hv; rw [if_pos (List.mem_cons_self ..), List.set_set]
      · rw [if_neg (by simp [hv, h]), List.set_comm _ _ hv]
theorem wipe_in {i : Nat} {o : Option V} {vs : List Nat} {σ : L2.St} (h : i ∈ vs) : wipe (σ.set i o) vs = wipe σ vs := by rw [wipe_set, if_pos h]
theorem wipe_setV {vs : List Nat} : ∀ {js : List Nat} {us : List V} {σ : L2.St}, (∀ j ∈ js, j ∈ vs) → wipe (setV σ js us) vs = wipe σ vs
  | [], _, _, _ => by unfold setV; rfl
  | _ :: _, [], _, _ => by unfold setV; rfl
  | j :: js, u :: us, σ, h => by
    unfold setV
    rw [wipe_setV (js := js) (us := us) fun k hk => h k (List.mem_cons_of_mem _ hk), wipe_in (h j (List.mem_cons_self ..))]
theorem wipe_sub {ws : List Nat} : ∀ {vs : List Nat} {σ : L2.St}, (∀ j ∈ vs, j ∈ ws) → wipe (wipe σ vs) ws = wipe σ ws
  | [], _, _ => rfl
  | v :: vs, σ, h => by
    show wipe ((wipe σ vs).set v none) ws = wipe σ ws
    rw [wipe_in (h v (List.mem_cons_self ..)), wipe_sub fun j hj => h j (List.mem_cons_of_mem _ hj)]
def wipeS (es : List Sl) : List Nat → List Sl
  | [] => es
  | v :: vs => (wipeS es vs).set v .n
theorem env_wipe {K : PySem.W.Frag} {F : Hp} {σ : L2.St} {es : List Sl} (h : Env K F σ es) : ∀ vs : List Nat, Env K F (wipe σ vs) (wipeS es vs)
  | [] => h
  | v :: vs => Paired.set' (R := OR K F) (x := none) (y := .n) trivial v (env_wipe h vs)
def Tg.ixs : Tg → List Nat
  | .nm j => [j]
  | .tp js => js
theorem Tg.lift2 {K : PySem.W.Frag} {t : Tg} {F : Hp} {M : MHp} {H : Hp} {σ : L2.St} {es : List Sl} {s : Sl} {v : V} {k : List Sl → Prop} {Q : L2.St → Hp → Prop} {vs : List Nat} (hs : Hs K F M H) (he : Env K F σ es) (r : SlR K F v s) (hv : ∀ j ∈ t.ixs, j ∈ vs) (h : t.set s M es k)
    (hq : ∀ σ' es', Env K F σ' es' → wipe σ' vs = wipe σ vs → k es' → Q σ' H) : t.g K v σ H Q := by
  cases t with
  | nm j => exact hq _ _ (env_set j he r) (wipe_in (hv j (List.mem_cons_self ..))) h
  | tp js =>
    obtain ⟨ss, h1, h2, h3⟩ := h
    obtain ⟨a, us, rfl, h4, h5⟩ := h1.at hs r
    exact ⟨a, us, rfl, SqT.of h4, by rw [Paired.len' h5]; exact h2, g_all (by rw [Paired.len' h5]; exact h2) (hq _ _ (env_setAll h5 he) (wipe_setV hv) h3)⟩
def dYes : DTT := fun M _ post => post M true
theorem pdts_nil {X : Cx} : PTs X [] (liftT X.K dYes) := ⟨fun pins s σ H Q I hq => pts_nil.run pins s σ H Q I (by
  obtain ⟨F, M, es, post, hs, he, ht, hf⟩ := hq
  exact hf _ _ F H ht (Same.refl F) hs)⟩
theorem pdts_one {X : Cx} {c : Expr} {θ : DTT} (h : PDT X c θ) : PTs X [c] (liftT X.K θ) := pts_one h
abbrev DFin := MHp → Addr → List Sl → DP → Prop
def finD : DFin := fun M Dn acc post => ∃ ds, acc = ds.map Sl.d ∧ post (mdel M Dn) (.d (.list ds))
def finM : DFin := fun M Dn _ post => post M (.m Dn)
def dLc (fin : DFin) (ι : DI) (t : Tg) (θ : DTT) (τ : DT) (vs : List Nat) : DT := fun M es post => ι M es fun M1 w => ∀ Dn, M1 Dn = none → ∃ P : Nat → MHp → List Sl → Prop, P 0 (mput M1 Dn (.lst [])) [] ∧
  (∀ i M acc, i ≤ w.n → P i M acc → w.G M ∧ M Dn = some (.lst acc)) ∧
  (∀ i M acc, i < w.n → P i M acc → t.set (w.y i) M (wipeS es vs) fun es2 => θ M es2 fun M2 b => if b = true then τ M2 es2 fun M3 s => M3 Dn = some (.lst acc) ∧ acc.length < sizeLine ∧ P (i + 1) (mput M3 Dn (.lst (acc ++ [s]))) (acc ++ [s]) else P (i + 1) M2 acc) ∧
  ∀ M acc, P w.n M acc → fin M Dn acc post
/-- how the new list is handed on -/
def FinOk (fin : DFin) : Prop := ∀ (K : PySem.W.Frag) F M H Dn acc post Q, Hs K F M H → M Dn = some (.lst acc) → fin M Dn acc post → Fol K F post Q → Q (.ref Dn) H
theorem fin_D : FinOk finD := by
  intro K F M H Dn acc post Q hs hM h hf
  obtain ⟨ds, rfl, hp⟩ := h
  obtain ⟨vs, h1, h2⟩ := hs.lst hM
  obtain ⟨e1, hs'⟩ := hs.freeze hM h1
  exact hf _ _ _ H _ hp e1 hs' (.lst upd_same ((sls_data h2).mono e1))
theorem fin_M : FinOk finM := by
  intro K F M H Dn acc post Q hs hM h hf
  exact hf _ _ F H _ h (Same.refl F) hs rfl
theorem lift_lc {K : PySem.W.Frag} {fin : DFin} {ι : DI} {t : Tg} {θ : DTT} {τ : DT} {vs : List Nat} (hfin : FinOk fin) (hv : ∀ j ∈ t.ixs, j ∈ vs) {σ : L2.St} {H : Hp} {Q : VK} (hq : lift K (dLc fin ι t θ τ vs) σ H Q) : tLc (liftI K ι) (t.g K) (liftT K θ) (lift K τ) vs σ H Q := by
  obtain ⟨F, M, es, post, hs, he, ht, hf⟩ := hq
  refine ⟨F, M, es, _, hs, he, ht, fun M1 w F1 H1 J p1 e1 hs1 hw => ?_⟩
  intro Dn hDn
  obtain ⟨P, h0, hG, hst, hd⟩ := p1 Dn (hs1.freeM hDn)
  refine ⟨fun i m H => m = w.n - i ∧ i ≤ w.n ∧ ∃ F' M acc, Same F1 F' ∧ Hs K F' M H ∧ P i M acc, ⟨w.n, by simp, Nat.zero_le _, F1, _, [], Same.refl F1, hs1.newM (o := .lst []) hDn ⟨[], upd_same, .nil⟩, h0⟩, ?_⟩
  rintro i m H' ⟨rfl, hi, F2, M2, acc, e2, hs2, h2⟩
  obtain ⟨hg2, hD2⟩ := hG i M2 acc hi h2
  by_cases hlt : i < w.n
  · refine .inr ⟨hw.goes i F2 M2 H' e2 hs2 hg2 hlt, fun H => ∃ F' M acc, Same F1 F' ∧ Hs K F' M H ∧ P (i + 1) M acc, fun H3 p3 => ⟨w.n - (i + 1), by omega, rfl, hlt, p3⟩, fun x H3 hy => ?_⟩
    obtain ⟨F3, e3, hs3, r3⟩ := hw.yields i F2 M2 H' x H3 e2 hs2 hg2 hlt hy
    have e13 : Same F1 F3 := e2.trans e3
    have hew : Env K F3 (wipe σ vs) (wipeS es vs) := env_wipe ((he.mono e1).mono e13) vs
    refine Tg.lift2 hs3 hew r3 hv (hst i M2 acc hlt h2) fun σ4 es4 he4 hwp hk => ⟨hwp.trans (wipe_sub fun _ z => z), ?_⟩
    refine ⟨F3, M2, es4, _, hs3, he4, hk, fun M5 b F5 H5 p5 e5 hs5 => ?_⟩
    cases b with
    | true =>
      rw [if_pos rfl] at p5
      refine iteT ?_
      refine ⟨F5, M5, es4, _, hs5, he4.mono e5, p5, fun M6 s F6 H6 v p6 e6 hs6 r6 => ?_⟩
      obtain ⟨q1, q2, q3⟩ := p6
      obtain ⟨us, q4, q5⟩ := hs6.lst q1
      refine ⟨us, q4, by rw [Paired.len' q5]; exact q2, F6, _, _, (e13.trans e5).trans e6, hs6.set (o := .lst (acc ++ [s])) q1 ⟨_, upd_same, Paired.app' q5 (.cons r6 .nil)⟩, q3⟩
    | false =>
      rw [if_neg Bool.false_ne_true] at p5
      exact iteF ⟨F5, M5, acc, e13.trans e5, hs5, p5⟩
  · have e : i = w.n := by omega
    subst e
    exact .inl ⟨hw.stops F2 M2 H' e2 hs2 hg2, hfin K F2 M2 H' Dn acc post Q hs2 hD2 (hd M2 acc h2) ((hf.mono e1).mono e2)⟩
section
variable {X : Cx} {pos : Pos}
theorem pd_lc {fin : DFin} {elt tg iter : Expr} {ifs : List Expr} {scope : Scope} {own : List (Str × Nat)} {ι : DI} {t : Tg} {θ : DTT} {τ : DT} (hfin : FinOk fin) (hc : X.calm = true) (hN : X.N.Nodup) (hi : PDI X tg iter ι) (ok : BlkOk X.N X.env.scope scope own) (hv : ∀ j ∈ t.ixs, j ∈ own.map (·.2))
    (hg : ∀ (s : Shared) (H : Hp) (C : Addr) (cl : List (Str × Addr)) (fp : List Addr), PDG (X.blk s H scope (compEnvC scope cl C X.env) fp) tg t) (ht : ∀ (s : Shared) (H : Hp) (C : Addr) (cl : List (Str × Addr)) (fp : List Addr), PTs (X.blk s H scope (compEnvC scope cl C X.env) fp) ifs (liftT X.K θ))
    (he : ∀ (s : Shared) (H : Hp) (C : Addr) (cl : List (Str × Addr)) (fp : List Addr), PD (X.blk s H scope (compEnvC scope cl C X.env) fp) elt τ) (hs : ∀ x, foldedSetIterable iter X.env x = pure x := by intro _; rfl) :
    PD X (.ListComp elt [⟨tg, iter, ifs, 0⟩] scope pos) (dLc fin ι t θ τ (own.map (·.2))) := peI (pe_lc hc hN hi ok hg ht he hs) fun σ H Q hq => lift_lc hfin hv hq
theorem pds_setLc {fin : DFin} {i : Nat} {y : Str} {py : Pos} {elt tg iter : Expr} {ifs : List Expr} {scope : Scope} {own : List (Str × Nat)} {spos : Pos} {ι : DI} {t : Tg} {θ : DTT} {τ : DT} (hfin : FinOk fin) (hc : X.calm = true) (hN : X.N.Nodup) (hy : X.N[i]? = some y) (hyl : X.env.scope.names.lookup y = some .local)
    (hsw : swapsWith (.ListComp elt [⟨tg, iter, ifs, 0⟩] scope pos) (some (.Name y py)) spos.line X.env = pure true) (hi : PDI X tg iter ι) (ok : BlkOk X.N X.env.scope scope own) (hv : ∀ j ∈ t.ixs, j ∈ own.map (·.2))
    (hg : ∀ (s : Shared) (H : Hp) (C : Addr) (cl : List (Str × Addr)) (fp : List Addr), PDG (X.blk s H scope (compEnvC scope cl C X.env) fp) tg t) (ht : ∀ (s : Shared) (H : Hp) (C : Addr) (cl : List (Str × Addr)) (fp : List Addr), PTs (X.blk s H scope (compEnvC scope cl C X.env) fp) ifs (liftT X.K θ))
    (he : ∀ (s : Shared) (H : Hp) (C : Addr) (cl : List (Str × Addr)) (fp : List Addr), PD (X.blk s H scope (compEnvC scope cl C X.env) fp) elt τ) (hs : ∀ x, foldedSetIterable iter X.env x = pure x := by intro _; rfl) :
    PDS X (.Assign [.Name y py] (.ListComp elt [⟨tg, iter, ifs, 0⟩] scope pos) spos) (dSet i (dLc fin ι t θ τ (own.map (·.2)))) := psI (ps_setLc hc hN hy hyl hsw hi ok hg ht he hs) fun D σ H hq => by
  obtain ⟨F, M, es, D', hs, he, ht, hf⟩ := hq
  exact lift_lc hfin hv ⟨F, M, es, _, hs, he, ht, fun M1 s F1 H1 v p1 e1 hs1 r1 => hf.nx _ _ F1 _ H1 p1 e1 hs1 (env_set i (he.mono e1) r1)⟩

/-! ### calls -/
abbrev DF := MHp → List Sl → DP → Prop
def spD (K : PySem.W.Frag) (φ : DF) : Sp := fun vs H Q _ => ∃ F M ss post, Hs K F M H ∧ SlsR K F vs ss ∧ φ M ss post ∧ Fol K F post Q
def dCall (φ : DF) (α : DA) : DT := fun M es post => α M es fun M1 ss => φ M1 ss post
theorem pd_call {k : Nat} {f : Addr} {fd : FuncData} {ps : List Str} {φ : DF} {x : Str} {p : Pos} {e : Expr} {es : List Expr} {α : DA} (G : FnOk X.prog X.w X.K X.mg X.base CX0 k f fd ps (spD X.K φ)) (hr : Room k X.A) (hg : Gl X x) (hm : X.mg x = some (.ref f)) (hk : PySem.W.keepIn X.K (.ref f) = true) (hb : Binds X.K fd ps [])
    (ha : PDA X (e :: es) α) (hd : (x == ("__debug__" : Str)) = false := by decide) (he : starEach (e :: es) X.env = (false, eval e X.env) :: starEach es X.env := by rfl) (hpl : (backTo pos (starEach es X.env)).any (·.1) = false := by rfl) : PD X (.Call (.Name x p) (e :: es) [] pos) (dCall φ α) :=
  peI (pe_call G hr hg hm hk hb .nil pass0 ha (hdb := hd) (he := he) (hpl := hpl)) fun σ H Q hq => by
  obtain ⟨F, M, es, post, hs, he, ht, hf⟩ := hq
  refine ⟨F, M, es, _, hs, he, ht, fun M1 ss F1 H1 vs p1 e1 hs1 r1 => ?_⟩
  show spD X.K φ (vs ++ []) H1 Q E0
  rw [List.append_nil]
  exact ⟨F1, M1, ss, post, hs1, r1, p1, hf.mono e1⟩
abbrev DB := List Sl → MHp → DP → Prop
def SndC (K : PySem.W.Frag) (r : List V → Hp → VK → Prop) (ρ : DB) : Prop := ∀ F M H vs ss post Q, Hs K F M H → SlsR K F vs ss → ρ ss M post → Fol K F post Q → r vs H Q
def dCB (ρ : DB) (α : DA) : DT := fun M es post => α M es fun M1 ss => ρ ss M1 post
theorem lift_cb {K : PySem.W.Frag} {r : List V → Hp → VK → Prop} {ρ : DB} {α : DA} (h : SndC K r ρ) {σ : L2.St} {H : Hp} {Q : VK} (hq : lift K (dCB ρ α) σ H Q) : tCB r (liftA K α) σ H Q := by
  obtain ⟨F, M, es, post, hs, he, ht, hf⟩ := hq
  exact ⟨F, M, es, _, hs, he, ht, fun M1 ss F1 H1 vs p1 e1 hs1 r1 => h F1 M1 H1 vs ss post Q hs1 r1 p1 (hf.mono e1)⟩
theorem pd_callB {id : String} {r : List V → Hp → VK → Prop} {ρ : DB} {x : Str} {p : Pos} {e : Expr} {es : List Expr} {α : DA} (hc : CallR X (.builtin id) r) (h : SndC X.K r ρ) (hg : Gl X x) (hm : X.mg x = none) (hv : bootBuiltins x = some (.builtin id)) (ha : PDA X (e :: es) α) (hn : x ≠ "__name__" := by decide) (hdb : (x == ("__debug__" : Str)) = false := by decide)
    (he : starEach (e :: es) X.env = (false, eval e X.env) :: starEach es X.env := by rfl) (hpl : (backTo pos (starEach es X.env)).any (·.1) = false := by rfl) : PD X (.Call (.Name x p) (e :: es) [] pos) (dCB ρ α) := peI (pe_callB hc hg hm hv ha hn hdb he hpl) fun _ _ _ hq => lift_cb h hq
theorem pd_callTy {T : String} {r : List V → Hp → VK → Prop} {ρ : DB} {x : Str} {p : Pos} {e : Expr} {es : List Expr} {α : DA} (hc : CallR X (.type T) r) (h : SndC X.K r ρ) (hg : Gl X x) (hm : X.mg x = none) (hv : bootBuiltins x = some (.type T)) (ha : PDA X (e :: es) α) (hn : x ≠ "__name__" := by decide) (hdb : (x == ("__debug__" : Str)) = false := by decide)
    (he : starEach (e :: es) X.env = (false, eval e X.env) :: starEach es X.env := by rfl) (hpl : (backTo pos (starEach es X.env)).any (·.1) = false := by rfl) : PD X (.Call (.Name x p) (e :: es) [] pos) (dCB ρ α) := peI (pe_callTy hc hg hm hv ha hn hdb he hpl) fun _ _ _ hq => lift_cb h hq

/-! ### built-in functions -/
def ρLen : DB := fun ss M post => match ss with
  | [.d (.list ds)] => post M (.d (.int ds.length))
  | [.d (.tuple ds)] => post M (.d (.int ds.length))
  | [.d (.str z)] => z.length ≤ sizeLine ∧ post M (.d (.int z.length))
  | [.s ns] => post M (.d (.int ns.length))
  | [.m a] => ∃ ss, M a = some (.lst ss) ∧ post M (.d (.int ss.length))
  | [.t ss] => post M (.d (.int ss.length))
  | _ => False
theorem snd_len {K : PySem.W.Frag} : SndC K (fun xs H Q => ∃ x n, xs = [x] ∧ LenV K x H n ∧ Q (.int n) H) ρLen := by
  intro F M H vs ss post Q hs r0 h hf
  unfold ρLen at h
  split at h
  · obtain ⟨v, rfl, r⟩ := sls1 r0
    obtain ⟨p, us, rfl, h1, h2⟩ := dq_lst r
    exact ⟨_, _, rfl, .inl ⟨us, SqL.of (hs.ex _ _ h1), h2.length.symm⟩, hf.dat hs (.int _) h⟩
  · obtain ⟨v, rfl, r⟩ := sls1 r0
    obtain ⟨p, us, rfl, h1, h2⟩ := dq_tup r
    exact ⟨_, _, rfl, .inr ⟨us, SqT.of (hs.ex _ _ h1), h2.length.symm⟩, hf.dat hs (.int _) h⟩
  · obtain ⟨v, rfl, r⟩ := sls1 r0
    rw [dq_str r]
    exact ⟨_, _, rfl, ⟨h.1, rfl⟩, hf.dat hs (.int _) h.2⟩
  · obtain ⟨v, rfl, r⟩ := sls1 r0
    obtain ⟨a, rfl, h1⟩ := r
    exact ⟨_, _, rfl, .inl ⟨_, sq_same hs.ex h1, (List.length_map _).symm⟩, hf.dat hs (.int _) h⟩
  · obtain ⟨v, rfl, r⟩ := sls1 r0
    obtain ⟨ss, hM, hp⟩ := h
    obtain ⟨us, h1, h2⟩ := hs.lst hM
    rw [show v = .ref _ from r]
    exact ⟨_, _, rfl, .inl ⟨us, SqL.of h1, (Paired.len' h2).symm⟩, hf.dat hs (.int _) hp⟩
  · obtain ⟨v, rfl, r⟩ := sls1 r0
    obtain ⟨a, us, rfl, h1, h2⟩ := r
    exact ⟨_, _, rfl, .inr ⟨us, SqT.of (hs.ex _ _ h1), (Paired.len' (tta_sls h2)).symm⟩, hf.dat hs (.int _) h⟩
  · exact h.elim
theorem pd_len {p : Pos} {e : Expr} {α : DA} (hg : Gl X "len") (hm : X.mg "len" = none) (ha : PDA X [e] α) (he : starEach [e] X.env = (false, eval e X.env) :: starEach [] X.env := by rfl) : PD X (.Call (.Name "len" p) [e] [] pos) (dCB ρLen α) := pd_callB call_len snd_len hg hm PySem.boot_len ha (he := he)
/-- the greatest | the least of two ints, of a list of ints -/
def ρMax : DB := fun ss M post => match ss with
  | [.d (.int i), .d (.int j)] => post M (.d (.int (if j > i then j else i)))
  | [s] => ∃ ns : List Int, LstOf M s (ns.map PyData.int) ∧ 0 < ns.length ∧ ∀ m, m ∈ ns → (∀ y, y ∈ ns → y ≤ m) → post M (.d (.int m))
  | _ => False
def ρMin : DB := fun ss M post => match ss with
  | [.d (.int i), .d (.int j)] => post M (.d (.int (if j < i then j else i)))
  | [s] => ∃ ns : List Int, LstOf M s (ns.map PyData.int) ∧ 0 < ns.length ∧ ∀ m, m ∈ ns → (∀ y, y ∈ ns → m ≤ y) → post M (.d (.int m))
  | _ => False
theorem dqa_int {F : Hp} : ∀ {vs : List V} {ns : List Int}, DqA F vs (ns.map PyData.int) → vs = ns.map V.int
  | _, [], .nil => rfl
  | _, _ :: _, .cons h r => by rw [dq_int h, dqa_int r]; rfl
theorem dqa_bl {F : Hp} : ∀ {vs : List V} {ns : List Bool}, DqA F vs (ns.map PyData.bool) → vs = ns.map V.bl
  | _, [], .nil => rfl
  | _, _ :: _, .cons h r => by rw [dq_bl h, dqa_bl r]; rfl
theorem dqa_str {F : Hp} : ∀ {vs : List V} {ns : List Str}, DqA F vs (ns.map PyData.str) → vs = ns.map V.str
  | _, [], .nil => rfl
  | _, _ :: _, .cons h r => by rw [dq_str h, dqa_str r]; rfl
theorem dqa_strs {F : Hp} : ∀ ns : List Str, DqA F (ns.map V.str) (ns.map PyData.str)
  | [] => .nil
  | _ :: r => .cons (.str _) (dqa_strs r)
theorem snd_max {K : PySem.W.Frag} : SndC K (fun xs H Q => (∃ i j, xs = [.int i, .int j] ∧ Q (.int (if j > i then j else i)) H) ∨ rMax K xs H Q) ρMax := by
  intro F M H vs ss post Q hs r0 h hf
  unfold ρMax at h
  split at h
  · obtain ⟨v, w, rfl, r, r'⟩ := sls2 r0
    rw [dq_int r, dq_int r']
    exact .inl ⟨_, _, rfl, hf.dat hs (.int _) h⟩
  · obtain ⟨v, rfl, r⟩ := sls1 r0
    obtain ⟨ns, h1, h2, h3⟩ := h
    obtain ⟨a, us, rfl, h4, h5⟩ := h1.at hs r
    rw [dqa_int h5] at h4
    exact .inr ⟨a, ns, rfl, SqL.of h4, h2, fun m hm hy => hf.dat hs (.int _) (h3 m hm hy)⟩
  · exact h.elim
theorem snd_min {K : PySem.W.Frag} : SndC K (fun xs H Q => (∃ i j, xs = [.int i, .int j] ∧ Q (.int (if j < i then j else i)) H) ∨ rMin K xs H Q) ρMin := by
  intro F M H vs ss post Q hs r0 h hf
  unfold ρMin at h
  split at h
  · obtain ⟨v, w, rfl, r, r'⟩ := sls2 r0
    rw [dq_int r, dq_int r']
    exact .inl ⟨_, _, rfl, hf.dat hs (.int _) h⟩
  · obtain ⟨v, rfl, r⟩ := sls1 r0
    obtain ⟨ns, h1, h2, h3⟩ := h
    obtain ⟨a, us, rfl, h4, h5⟩ := h1.at hs r
    rw [dqa_int h5] at h4
    exact .inr ⟨a, ns, rfl, SqL.of h4, h2, fun m hm hy => hf.dat hs (.int _) (h3 m hm hy)⟩
  · exact h.elim
theorem pd_max {p : Pos} {e : Expr} {es : List Expr} {α : DA} (hc : X.calm = true) (hg : Gl X "max") (hm : X.mg "max" = none) (ha : PDA X (e :: es) α) (he : starEach (e :: es) X.env = (false, eval e X.env) :: starEach es X.env := by rfl) (hpl : (backTo pos (starEach es X.env)).any (·.1) = false := by rfl) : PD X (.Call (.Name "max" p) (e :: es) [] pos) (dCB ρMax α) := pd_callB (CallR.or (call_max2 hc) (cr_max hc)) snd_max hg hm (by decide +kernel) ha (he := he) (hpl := hpl)
theorem pd_min {p : Pos} {e : Expr} {es : List Expr} {α : DA} (hc : X.calm = true) (hg : Gl X "min") (hm : X.mg "min" = none) (ha : PDA X (e :: es) α) (he : starEach (e :: es) X.env = (false, eval e X.env) :: starEach es X.env := by rfl) (hpl : (backTo pos (starEach es X.env)).any (·.1) = false := by rfl) : PD X (.Call (.Name "min" p) (e :: es) [] pos) (dCB ρMin α) := pd_callB (CallR.or (call_min2 hc) (cr_min hc)) snd_min hg hm (by decide +kernel) ha (he := he) (hpl := hpl)
/-- all(..), any(..) of a list of bools; sum of ints -/
def ρAll : DB := fun ss M post => ∃ (s : Sl) (bs : List Bool), ss = [s] ∧ LstOf M s (bs.map PyData.bool) ∧ post M (.d (.bool (bs.all id)))
def ρAny : DB := fun ss M post => ∃ (s : Sl) (bs : List Bool), ss = [s] ∧ LstOf M s (bs.map PyData.bool) ∧ post M (.d (.bool (bs.any id)))
def ρSum : DB := fun ss M post => ∃ (s : Sl) (ns : List Int), ss = [s] ∧ LsOf M s (ns.map PyData.int) ∧ post M (.d (.int ns.sum))
theorem snd_all {K : PySem.W.Frag} : SndC K (rAll K) ρAll := by
  intro F M H vs ss post Q hs r0 h hf
  obtain ⟨s, bs, rfl, h1, hp⟩ := h
  obtain ⟨v, rfl, r⟩ := sls1 r0
  obtain ⟨a, us, rfl, h4, h5⟩ := h1.at hs r
  rw [dqa_bl h5] at h4
  exact ⟨a, bs, rfl, SqL.of h4, hf.dat hs (.bl _) hp⟩
theorem snd_any {K : PySem.W.Frag} : SndC K (rAny K) ρAny := by
  intro F M H vs ss post Q hs r0 h hf
  obtain ⟨s, bs, rfl, h1, hp⟩ := h
  obtain ⟨v, rfl, r⟩ := sls1 r0
  obtain ⟨a, us, rfl, h4, h5⟩ := h1.at hs r
  rw [dqa_bl h5] at h4
  exact ⟨a, bs, rfl, SqL.of h4, hf.dat hs (.bl _) hp⟩
theorem snd_sum {K : PySem.W.Frag} : SndC K (rSum K) ρSum := by
  intro F M H vs ss post Q hs r0 h hf
  obtain ⟨s, ns, rfl, h1, hp⟩ := h
  obtain ⟨v, rfl, r⟩ := sls1 r0
  rcases h1 with h1 | ⟨ms, rfl, e⟩
  · obtain ⟨a, us, rfl, h4, h5⟩ := h1.at hs r
    rw [dqa_int h5] at h4
    exact ⟨a, ns, rfl, SqL.of h4, hf.dat hs (.int _) hp⟩
  · obtain ⟨a, rfl, h1⟩ := r
    have e : ms = ns := by
      have : ∀ (l m : List Int), l.map PyData.int = m.map PyData.int → m = l := fun l => by
        induction l with
        | nil => intro m h; cases m with | nil => rfl | cons _ _ => cases h
        | cons x l ih =>
          intro m h
          cases m with
          | nil => cases h
          | cons y m =>
            rw [List.map_cons, List.map_cons] at h
            injection h with h1 h2
            injection h1 with h1
            rw [h1, ih m h2]
      exact this _ _ e
    subst e
    exact ⟨a, ms, rfl, sq_same hs.ex h1, hf.dat hs (.int _) hp⟩
theorem pd_all {p : Pos} {e : Expr} {α : DA} (hc : X.calm = true) (hg : Gl X "all") (hm : X.mg "all" = none) (ha : PDA X [e] α) (he : starEach [e] X.env = (false, eval e X.env) :: starEach [] X.env := by rfl) : PD X (.Call (.Name "all" p) [e] [] pos) (dCB ρAll α) := pd_callB (cr_all hc) snd_all hg hm (by decide +kernel) ha (he := he)
theorem pd_any {p : Pos} {e : Expr} {α : DA} (hc : X.calm = true) (hg : Gl X "any") (hm : X.mg "any" = none) (ha : PDA X [e] α) (he : starEach [e] X.env = (false, eval e X.env) :: starEach [] X.env := by rfl) : PD X (.Call (.Name "any" p) [e] [] pos) (dCB ρAny α) := pd_callB (cr_any hc) snd_any hg hm (by decide +kernel) ha (he := he)
theorem pd_sum {p : Pos} {e : Expr} {α : DA} (hc : X.calm = true) (hg : Gl X "sum") (hm : X.mg "sum" = none) (ha : PDA X [e] α) (he : starEach [e] X.env = (false, eval e X.env) :: starEach [] X.env := by rfl) : PD X (.Call (.Name "sum" p) [e] [] pos) (dCB ρSum α) := pd_callB (cr_sum hc) snd_sum hg hm (by decide +kernel) ha (he := he)
/-- int(b), int(i) -/
def ρInt : DB := fun ss M post => match ss with
  | [.d (.int i)] => post M (.d (.int i))
  | [.d (.bool k)] => post M (.d (.int (if k then 1 else 0)))
  | [.d (.str a)] => ∃ n, PySem.intText? a = some n ∧ a.length ≤ 640 ∧ post M (.d (.int n))
  | _ => False
theorem snd_int {K : PySem.W.Frag} : SndC K (fun xs H Q => ((∃ i, xs = [.int i] ∧ Q (.int i) H) ∨ ∃ k, xs = [.bl k] ∧ Q (.int (if k then 1 else 0)) H) ∨ ∃ a n, xs = [.str a] ∧ PySem.intText? a = some n ∧ a.length ≤ 640 ∧ Q (.int n) H) ρInt := by
  intro F M H vs ss post Q hs r0 h hf
  unfold ρInt at h
  split at h
  · obtain ⟨v, rfl, r⟩ := sls1 r0; rw [dq_int r]; exact .inl (.inl ⟨_, rfl, hf.dat hs (.int _) h⟩)
  · obtain ⟨v, rfl, r⟩ := sls1 r0; rw [dq_bl r]; exact .inl (.inr ⟨_, rfl, hf.dat hs (.int _) h⟩)
  · obtain ⟨v, rfl, r⟩ := sls1 r0; rw [dq_str r]; obtain ⟨n, h1, h2, h3⟩ := h; exact .inr ⟨_, n, rfl, h1, h2, hf.dat hs (.int _) h3⟩
  · exact h.elim
theorem pd_intc {p : Pos} {e : Expr} {α : DA} (hg : Gl X "int") (hm : X.mg "int" = none) (ha : PDA X [e] α) (he : starEach [e] X.env = (false, eval e X.env) :: starEach [] X.env := by rfl) : PD X (.Call (.Name "int" p) [e] [] pos) (dCB ρInt α) := pd_callTy (CallR.or call_int1 call_int_str) snd_int hg hm (by decide +kernel) ha (he := he)
/-- list(xs), tuple(xs) of data -/
def ρList (fin : Bool) : DB := fun ss M post => ∃ s ds, ss = [s] ∧ (LsOf M s ds ∨ s = .d (.tuple ds)) ∧ if fin = true then ∀ p, M p = none → post (mput M p (.lst (ds.map Sl.d))) (.m p) else post M (.d (.list ds))
theorem LsOf.at {K : PySem.W.Frag} {F : Hp} {M : MHp} {H : Hp} {s : Sl} {v : V} {ds : List PyData} (h : LsOf M s ds) (hs : Hs K F M H) (r : SlR K F v s) : ∃ a vs, v = .ref a ∧ SqL K H a vs ∧ DqA F vs ds := by
  rcases h with h | ⟨ns, rfl, rfl⟩
  · obtain ⟨a, vs, h1, h2, h3⟩ := h.at hs r; exact ⟨a, vs, h1, SqL.of h2, h3⟩
  · obtain ⟨a, h1, h2⟩ := r; exact ⟨a, _, h1, sq_same hs.ex h2, dqa_ints _⟩
theorem snd_list {K : PySem.W.Frag} {fin : Bool} : SndC K (fun xs H Q => ∃ p ys, xs = [.ref p] ∧ (SqL K H p ys ∨ SqT K H p ys) ∧ ∀ l, H l = none → Q (.ref l) (upd H l (.lst ys))) (ρList fin) := by
  intro F M H vs ss post Q hs r0 h hf
  obtain ⟨s, ds, rfl, h1, hp⟩ := h
  obtain ⟨v, rfl, r⟩ := sls1 r0
  have key : ∃ a us, v = .ref a ∧ (SqL K H a us ∨ SqT K H a us) ∧ DqA F us ds := by
    rcases h1 with h1 | rfl
    · obtain ⟨a, us, h2, h3, h4⟩ := h1.at hs r; exact ⟨a, us, h2, .inl h3, h4⟩
    · obtain ⟨a, us, h2, h3, h4⟩ := dq_tup r; exact ⟨a, us, h2, .inr (SqT.of (hs.ex _ _ h3)), h4⟩
  obtain ⟨a, us, rfl, h2, h3⟩ := key
  refine ⟨a, us, rfl, h2, ?_⟩
  cases fin with
  | true => rw [if_pos rfl] at hp; exact hf.newML hs (data_sls h3) hp
  | false => rw [if_neg Bool.false_ne_true] at hp; exact hf.newL hs h3 hp
theorem pd_list {fin : Bool} {p : Pos} {e : Expr} {α : DA} (hg : Gl X "list") (hm : X.mg "list" = none) (ha : PDA X [e] α) (he : starEach [e] X.env = (false, eval e X.env) :: starEach [] X.env := by rfl) : PD X (.Call (.Name "list" p) [e] [] pos) (dCB (ρList fin) α) := pd_callTy call_list_of snd_list hg hm (by decide +kernel) ha (he := he)
end
end DL
set_option Elab.async false
set_option autoImplicit false
set_option linter.all false
set_option maxRecDepth 100000
set_option maxHeartbeats 2000000
namespace DL
open PySem PySem.Spec PyProof.Rows L2

/-! ### dicts -/
section
variable {κ β : Type} [DecidableEq κ]
def gVal (kvs : List (κ × β)) (k : κ) : Option β := (kvs.find? fun kv => decide (kv.1 = k)).map (·.2)
def gPut (kvs : List (κ × β)) (k : κ) (v : β) : List (κ × β) :=
  if (kvs.any fun kv => decide (kv.1 = k)) = true then kvs.map (fun kv => if kv.1 = k then (kv.1, v) else kv) else kvs ++ [(k, v)]
end
section
variable {κ : Type} [DecidableEq κ]
def KS (K : PySem.W.Frag) (F : Hp) : List (κ × V) → List (κ × Sl) → Prop := Paired fun (p : κ × V) (q : κ × Sl) => p.1 = q.1 ∧ SlR K F p.2 q.2
theorem ks_val {K : PySem.W.Frag} {F : Hp} {k : κ} : ∀ {kws : List (κ × V)} {kvs : List (κ × Sl)}, KS K F kws kvs → (∀ s, gVal kvs k = some s → ∃ v, valV kws k = some v ∧ SlR K F v s) ∧ (gVal kvs k = none → valV kws k = none)
  | _, _, .nil => ⟨fun s h => by simp [gVal] at h, fun _ => rfl⟩
  | (k1, v1) :: kws, (k2, s2) :: kvs, .cons h r => by
    obtain ⟨h1, h2⟩ := h
    have h1 : k1 = k2 := h1
    subst h1
    obtain ⟨i1, i2⟩ := ks_val (k := k) r
    by_cases e : k1 = k
    · have e1 : gVal ((k1, s2) :: kvs) k = some s2 := by simp [gVal, List.find?_cons, e]
      have e2 : valV ((k1, v1) :: kws) k = some v1 := valV_pos e
      rw [e1, e2]
      exact ⟨fun s h => ⟨v1, rfl, by cases h; exact h2⟩, fun h => by cases h⟩
    · have e1 : gVal ((k1, s2) :: kvs) k = gVal kvs k := by simp [gVal, List.find?_cons, e]
      have e2 : valV ((k1, v1) :: kws) k = valV kws k := valV_neg e
      rw [e1, e2]
      exact ⟨i1, i2⟩
theorem ks_any {K : PySem.W.Frag} {F : Hp} {k : κ} : ∀ {kws : List (κ × V)} {kvs : List (κ × Sl)}, KS K F kws kvs → (kws.any fun kv => decide (kv.1 = k)) = (kvs.any fun kv => decide (kv.1 = k))
  | _, _, .nil => rfl
  | (k1, v1) :: kws, (k2, s2) :: kvs, .cons h r => by
    have h1 : k1 = k2 := h.1
    subst h1
    rw [List.any_cons, List.any_cons, ks_any r]
theorem ks_map {K : PySem.W.Frag} {F : Hp} {k : κ} {v : V} {s : Sl} (hv : SlR K F v s) : ∀ {kws : List (κ × V)} {kvs : List (κ × Sl)}, KS K F kws kvs → KS K F (kws.map fun kv => if kv.1 = k then (kv.1, v) else kv) (kvs.map fun kv => if kv.1 = k then (kv.1, s) else kv)
  | _, _, .nil => .nil
  | (k1, v1) :: kws, (k2, s2) :: kvs, .cons h r => by
    have h1 : k1 = k2 := h.1
    subst h1
    refine .cons ?_ (ks_map hv r)
    show (if k1 = k then (k1, v) else (k1, v1)).1 = (if k1 = k then (k1, s) else (k1, s2)).1 ∧ SlR K F (if k1 = k then (k1, v) else (k1, v1)).2 (if k1 = k then (k1, s) else (k1, s2)).2
    by_cases e : k1 = k
    · rw [if_pos e, if_pos e]; exact ⟨rfl, hv⟩
    · rw [if_neg e, if_neg e]; exact ⟨rfl, h.2⟩
theorem ks_put {K : PySem.W.Frag} {F : Hp} {k : κ} {v : V} {s : Sl} (hv : SlR K F v s) {kws : List (κ × V)} {kvs : List (κ × Sl)} (h : KS K F kws kvs) : KS K F (putK kws k v) (gPut kvs k s) := by
  unfold putK gPut
  rw [ks_any h]
  split
  · exact ks_map hv h
  · exact Paired.app' h (.cons ⟨rfl, hv⟩ .nil)
end
def keyOf : PyData → Option Key
  | .int i => some (.inl i)
  | .str x => some (.inr x)
  | _ => none
def keysOf : List PyData → Option (List Key)
  | [] => some []
  | d :: ds => match keyOf d, keysOf ds with
    | some k, some ks => some (k :: ks)
    | _, _ => none
theorem key_at {F : Hp} {v : V} {d : PyData} {k : Key} (h : Dq F v d) (e : keyOf d = some k) : v = kV k := by
  cases h <;> simp [keyOf] at e <;> subst e <;> rfl
theorem keys_at {F : Hp} : ∀ {vs : List V} {ds : List PyData} {ks : List Key}, DqA F vs ds → keysOf ds = some ks → vs = ks.map kV
  | _, [], _, .nil, e => by cases e; rfl
  | _, d :: ds, ks, .cons h r, e => by
    unfold keysOf at e
    cases h1 : keyOf d with
    | none => rw [h1] at e; cases e
    | some k =>
      cases h2 : keysOf ds with
      | none => rw [h1, h2] at e; cases e
      | some ks' =>
        rw [h1, h2] at e
        cases e
        rw [key_at h h1, keys_at r h2]
        rfl
/-- the key in a dict at a: what is there -/
def GetS (M : MHp) (a : Addr) (x : PyData) (o : Option Sl) : Prop := match M a with
  | some (.dK kvs) => ∃ k, keyOf x = some k ∧ o = gVal kvs k
  | some (.dT kvs) => match x with
    | .tuple ds => ∃ ks, keysOf ds = some ks ∧ o = gVal kvs ks
    | _ => False
  | some (.lK _ _ kvs) => ∃ k, keyOf x = some k ∧ o = gVal kvs k
  | some (.lT _ _ kvs) => match x with
    | .tuple ds => ∃ ks, keysOf ds = some ks ∧ o = gVal kvs ks
    | _ => False
  | _ => False
theorem GetS.at {K : PySem.W.Frag} {F : Hp} {M : MHp} {H : Hp} {a : Addr} {y : V} {x : PyData} {o : Option Sl} (h : GetS M a x o) (hs : Hs K F M H) (r : Dq F y x) :
    ∃ ov, DGet H a y ov ∧ (∀ s, o = some s → ∃ v, ov = some v ∧ SlR K F v s) ∧ (o = none → ov = none) := by
  unfold GetS at h
  split at h
  · rename_i kvs hM
    obtain ⟨k, hk, rfl⟩ := h
    obtain ⟨kws, h1, h2⟩ := (show ∃ kws, H a = some (.dK kws) ∧ KS K F kws kvs from hs.ok _ _ hM)
    rw [key_at r hk]
    obtain ⟨i1, i2⟩ := ks_val (k := k) h2
    exact ⟨_, DGet.k h1, i1, i2⟩
  · rename_i kvs hM
    split at h
    · rename_i ds
      obtain ⟨ks, hk, rfl⟩ := h
      obtain ⟨kws, h1, h2⟩ := (show ∃ kws, H a = some (.dT kws) ∧ KS K F kws kvs from hs.ok _ _ hM)
      obtain ⟨b, vs, rfl, h3, h4⟩ := dq_tup r
      rw [keys_at h4 hk] at h3
      obtain ⟨i1, i2⟩ := ks_val (k := ks) h2
      exact ⟨_, DGet.t h1 (hs.ex _ _ h3), i1, i2⟩
    · exact h.elim
  · rename_i od kws kvs hM
    obtain ⟨k, hk, rfl⟩ := h
    obtain ⟨h1, h2⟩ := (show H a = some (.frz od (.dK kws)) ∧ KS K F kws kvs from hs.ok _ _ hM)
    rw [key_at r hk]
    obtain ⟨i1, i2⟩ := ks_val (k := k) h2
    exact ⟨_, .inl ⟨kws, k, .inr ⟨od, h1⟩, rfl, rfl⟩, i1, i2⟩
  · rename_i od kws kvs hM
    split at h
    · rename_i ds
      obtain ⟨ks, hk, rfl⟩ := h
      obtain ⟨h1, h2⟩ := (show H a = some (.frz od (.dT kws)) ∧ KS K F kws kvs from hs.ok _ _ hM)
      obtain ⟨b, vs, rfl, h3, h4⟩ := dq_tup r
      rw [keys_at h4 hk] at h3
      obtain ⟨i1, i2⟩ := ks_val (k := ks) h2
      exact ⟨_, .inr ⟨kws, ks, b, .inr ⟨od, h1⟩, rfl, hs.ex _ _ h3, rfl⟩, i1, i2⟩
    · exact h.elim
  · exact h.elim
/-- a[x] = s in a dict -/
def PutS (M : MHp) (a : Addr) (x : PyData) (s : Sl) (k : MHp → Prop) : Prop := match M a with
  | some (.dK kvs) => ∃ key, keyOf x = some key ∧ kvs.length < sizeLine ∧ k (mput M a (.dK (gPut kvs key s)))
  | some (.dT kvs) => match x with
    | .tuple ds => ∃ ks, keysOf ds = some ks ∧ kvs.length < sizeLine ∧ k (mput M a (.dT (gPut kvs ks s)))
    | _ => False
  | _ => False
theorem PutS.at {K : PySem.W.Frag} {F : Hp} {M : MHp} {H : Hp} {a : Addr} {y v : V} {x : PyData} {s : Sl} {k : MHp → Prop} (h : PutS M a x s k) (hs : Hs K F M H) (r : Dq F y x) (rv : SlR K F v s) :
    ∃ H' M', DPut H a y v H' ∧ Hs K F M' H' ∧ k M' := by
  unfold PutS at h
  split at h
  · rename_i kvs hM
    obtain ⟨key, hk, hl, hp⟩ := h
    obtain ⟨kws, h1, h2⟩ := (show ∃ kws, H a = some (.dK kws) ∧ KS K F kws kvs from hs.ok _ _ hM)
    rw [key_at r hk]
    exact ⟨_, _, DPut.k h1 (by rw [Paired.len' h2]; exact hl), hs.set (o := .dK (gPut kvs key s)) hM ⟨_, upd_same, ks_put rv h2⟩, hp⟩
  · rename_i kvs hM
    split at h
    · rename_i ds
      obtain ⟨ks, hk, hl, hp⟩ := h
      obtain ⟨kws, h1, h2⟩ := (show ∃ kws, H a = some (.dT kws) ∧ KS K F kws kvs from hs.ok _ _ hM)
      obtain ⟨b, vs, rfl, h3, h4⟩ := dq_tup r
      rw [keys_at h4 hk] at h3
      exact ⟨_, _, DPut.t h1 (hs.ex _ _ h3) (by rw [Paired.len' h2]; exact hl), hs.set (o := .dT (gPut kvs ks s)) hM ⟨_, upd_same, ks_put rv h2⟩, hp⟩
    · exact h.elim
  · exact h.elim
section
variable {X : Cx} {a b e o i v : Expr} {τ τa τb τo τi τv τx : DT} {pos : Pos}
def rIxDk : R2 := fun x y H Q => ∃ a v, x = .ref a ∧ DGet H a y (some v) ∧ Q v H
theorem ix_dict (hu : X.A.units + 1 < cLine) : IxR X rIxDk := by
  intro value slice pins s σ H x y v u Q I rx ry h hs
  obtain ⟨a, w, rfl, g, q⟩ := h
  obtain rfl : v = .ref a := rx
  exact tail_any (dict_typeIs I g) PySem.F.slot_dict_getitem.lookup (d_getItem hu I g ry fun w' s3 I3 rw' => ⟨w, H, I3, rw', q⟩) hs
/-- x[i] of anything -/
def ρGet : DR2 := fun s1 s2 M post => ρIx s1 s2 M post ∨ ∃ a x s, s1 = .m a ∧ s2 = .d x ∧ GetS M a x (some s) ∧ post M s
theorem snd_get {K : PySem.W.Frag} : Snd K (fun x y H Q => rIx K x y H Q ∨ rIxDk x y H Q) ρGet := by
  intro F M H v1 v2 s1 s2 post Q hs r1 r2 h hf
  rcases h with h | ⟨a, x, s, rfl, rfl, hg, hp⟩
  · exact .inl (snd_ix F M H v1 v2 s1 s2 post Q hs r1 r2 h hf)
  · obtain ⟨ov, h1, h2, _⟩ := hg.at hs r2
    obtain ⟨v, rfl, h3⟩ := h2 s rfl
    exact .inr ⟨a, v, r1, h1, hf.here hs h3 hp⟩
theorem pd_get (hu : X.A.units + 1 < cLine) (ha : PD X a τa) (hb : PD X b τb) (hs : PlainIx b) : PD X (.Subscript a b pos) (dOp ρGet τa τb) := pd_ix (IxR.or ix_seq (ix_dict hu)) snd_get ha hb hs
/-- o[i] = v -/
def ρSet (so si sv : Sl) (M : MHp) (k : MHp → Prop) : Prop := match so, si with
  | .m a, .d x => (∃ ss j l, M a = some (.lst ss) ∧ x = .int j ∧ ixN ss.length j = some l ∧ k (mput M a (.lst (ss.set l sv)))) ∨ PutS M a x sv k
  | _, _ => False
def dSub (τo τi τv : DT) : DS := fun D M es => τv M es fun M1 sv => τo M1 es fun M2 so => τi M2 es fun M3 si => ρSet so si sv M3 fun M4 => D.nx M4 es
theorem set_or {t t' : TSet} (h : PSet X t) (h' : PSet X t') : PSet X fun o i v H Q => t o i v H Q ∨ t' o i v H Q := by
  intro pins s σ H o i v ov iv u Q I ro ri rv q
  rcases q with q | q
  · exact h pins s σ H o i v ov iv u Q I ro ri rv q
  · exact h' pins s σ H o i v ov iv u Q I ro ri rv q
theorem pds_sub {pos' : Pos} (hu : X.A.units + 1 < cLine) (ho : PD X o τo) (hi : PD X i τi) (hv : PD X v τv) (hs : swapsWithSole [.Subscript o i pos'] v pos.line X.env = pure false := by rfl) (hw : swappedStores [.Subscript o i pos'] v X.env = pure none := by rfl) (h1 : (assignEach [.Subscript o i pos'] X.env).map (·.2) = [assign (.Subscript o i pos') X.env] := by rfl)
    (hx : PG X (.Subscript o i pos') (gSub (lift X.K τo) (lift X.K τi) fun o i v H Q => rSetL o i v H Q ∨ rSetD o i v H Q)) :
    PDS X (.Assign [.Subscript o i pos'] v pos) (dSub τo τi τv) := psI (ps_asg hv hx hs hw (h1 := h1)) fun D σ H hq => by
  obtain ⟨F, M, es, D', hs, he, ht, hf⟩ := hq
  refine ⟨F, M, es, _, hs, he, ht, fun M1 sv F1 H1 vv p1 e1 hs1 r1 => ?_⟩
  refine ⟨F1, M1, es, _, hs1, he.mono e1, p1, fun M2 so F2 H2 vo p2 e2 hs2 r2 => ?_⟩
  refine ⟨F2, M2, es, _, hs2, (he.mono e1).mono e2, p2, fun M3 si F3 H3 vi p3 e3 hs3 r3 => ?_⟩
  have rv := (r1.mono e2).mono e3
  have ro := r2.mono e3
  have hf3 := ((hf.mono e1).mono e2).mono e3
  have he3 := ((he.mono e1).mono e2).mono e3
  unfold ρSet at p3
  split at p3
  · rename_i a x
    rcases p3 with ⟨ss, j, l, hM, rfl, hl, hp⟩ | hput
    · obtain ⟨vs, h1, h2⟩ := hs3.lst hM
      refine .inl ⟨a, vs, j, l, ro, dq_int r3, h1, by rw [Paired.len' h2]; exact hl, ?_⟩
      exact hf3.nx _ _ F3 _ _ hp (Same.refl F3) (hs3.set (o := .lst (ss.set l sv)) hM ⟨_, upd_same, Paired.set' rv l h2⟩) he3
    · obtain ⟨H', M', h1, h2, h3⟩ := hput.at hs3 r3 rv
      exact .inr ⟨a, H', ro, h1, hf3.nx _ _ F3 _ _ h3 (Same.refl F3) h2 he3⟩
  · exact p3.elim
/-- d.get(k), d.get(k, x) -/
def dGet1 (τo τi : DT) : DT := fun M es post => τo M es fun M1 so => ∃ a, so = .m a ∧ ((∃ kvs, M1 a = some (.dK kvs)) ∨ ∃ kvs, M1 a = some (.dT kvs)) ∧ τi M1 es fun M2 si => ∃ x ov, si = .d x ∧ GetS M2 a x ov ∧ post M2 (ov.getD (.d .none))
def dGet2 (τo τi τx : DT) : DT := fun M es post => τo M es fun M1 so => ∃ a, so = .m a ∧ ((∃ kvs, M1 a = some (.dK kvs)) ∨ ∃ kvs, M1 a = some (.dT kvs)) ∧ τi M1 es fun M2 si => τx M2 es fun M3 sx => ∃ x ov, si = .d x ∧ GetS M3 a x ov ∧ post M3 (ov.getD sx)
theorem isD_of {K : PySem.W.Frag} {F : Hp} {M : MHp} {H : Hp} {a : Addr} (hs : Hs K F M H) (h : (∃ kvs, M a = some (.dK kvs)) ∨ ∃ kvs, M a = some (.dT kvs)) : IsD H a := by
  rcases h with ⟨kvs, hM⟩ | ⟨kvs, hM⟩
  · obtain ⟨kws, h1, _⟩ := (show ∃ kws, H a = some (.dK kws) ∧ KS K F kws kvs from hs.ok _ _ hM); exact .inl ⟨kws, .inl h1⟩
  · obtain ⟨kws, h1, _⟩ := (show ∃ kws, H a = some (.dT kws) ∧ KS K F kws kvs from hs.ok _ _ hM); exact .inr ⟨kws, .inl h1⟩
theorem pd_dget1 {apos : Pos} (hu : X.A.units + 1 < cLine) (ho : PD X o τo) (hi : PD X i τi) (m : M1 X o "get" apos i pos) : PD X (.Call (.Attribute o "get" apos) [i] [] pos) (dGet1 τo τi) := peI (pe_dget1 hu ho hi m) fun σ H Q hq => by
  obtain ⟨F, M, es, post, hs, he, ht, hf⟩ := hq
  refine ⟨F, M, es, _, hs, he, ht, fun M1 so F1 H1 vo p1 e1 hs1 r1 => ?_⟩
  obtain ⟨a, rfl, hd, p1⟩ := p1
  refine ⟨a, r1, isD_of hs1 hd, F1, M1, es, _, hs1, he.mono e1, p1, fun M2 si F2 H2 vi p2 e2 hs2 r2 => ?_⟩
  obtain ⟨x, ov, rfl, hg, hp⟩ := p2
  obtain ⟨ow, h1, h2, h3⟩ := hg.at hs2 r2
  refine ⟨ow, h1, ?_⟩
  have hf2 := (hf.mono e1).mono e2
  cases ov with
  | none => rw [h3 rfl]; exact hf2.dat hs2 .non hp
  | some s => obtain ⟨w, rfl, hw⟩ := h2 s rfl; exact hf2.here hs2 hw hp
theorem pd_dget2 {f : Expr} {apos : Pos} (hu : X.A.units + 1 < cLine) (ho : PD X o τo) (hi : PD X i τi) (hx : PD X f τx) (m : M2 X o "get" apos i f pos) : PD X (.Call (.Attribute o "get" apos) [i, f] [] pos) (dGet2 τo τi τx) := peI (pe_dget2 hu ho hi hx m) fun σ H Q hq => by
  obtain ⟨F, M, es, post, hs, he, ht, hf⟩ := hq
  refine ⟨F, M, es, _, hs, he, ht, fun M1 so F1 H1 vo p1 e1 hs1 r1 => ?_⟩
  obtain ⟨a, rfl, hd, p1⟩ := p1
  refine ⟨a, r1, isD_of hs1 hd, F1, M1, es, _, hs1, he.mono e1, p1, fun M2 si F2 H2 vi p2 e2 hs2 r2 => ?_⟩
  refine ⟨F2, M2, es, _, hs2, (he.mono e1).mono e2, p2, fun M3 sx F3 H3 vx p3 e3 hs3 r3 => ?_⟩
  obtain ⟨x, ov, rfl, hg, hp⟩ := p3
  obtain ⟨ow, h1, h2, h3⟩ := hg.at hs3 (r2.mono e3)
  refine ⟨ow, h1, ?_⟩
  have hf3 := ((hf.mono e1).mono e2).mono e3
  cases ov with
  | none => rw [h3 rfl]; exact hf3.here hs3 r3 hp
  | some s => obtain ⟨w, rfl, hw⟩ := h2 s rfl; exact hf3.here hs3 hw hp
/-- {} -/
def dNewK : DT := fun M _ post => ∀ p, M p = none → post (mput M p (.dK [])) (.m p)
def dNewT : DT := fun M _ post => ∀ p, M p = none → post (mput M p (.dT [])) (.m p)
theorem pd_newK : PD X (.Dict [] [] pos) dNewK := peI pe_dnewK fun σ H Q hq => by
  obtain ⟨F, M, es, post, hs, he, ht, hf⟩ := hq
  exact fun p np => hf _ _ F _ _ (ht p (hs.freeM np)) (Same.refl F) (hs.newM (o := .dK []) np ⟨[], upd_same, .nil⟩) rfl
theorem pd_newT : PD X (.Dict [] [] pos) dNewT := peI pe_dnewT fun σ H Q hq => by
  obtain ⟨F, M, es, post, hs, he, ht, hf⟩ := hq
  exact fun p np => hf _ _ F _ _ (ht p (hs.freeM np)) (Same.refl F) (hs.newM (o := .dT []) np ⟨[], upd_same, .nil⟩) rfl
/-- {k: v, ..}: text or int keys -/
abbrev DPs := List (DT × DT)
def dPairs : DPs → MHp → List Sl → (MHp → List (Sl × Sl) → Prop) → Prop
  | [], M, _, post => post M []
  | (τk, τv) :: r, M, es, post => τk M es fun M1 sk => τv M1 es fun M2 sv => dPairs r M2 es fun M3 ps => post M3 ((sk, sv) :: ps)
def gMerge {κ β : Type} [DecidableEq κ] (kvs more : List (κ × β)) : List (κ × β) := more.foldl (fun acc kv => gPut acc kv.1 kv.2) kvs
def dDisp (ps : DPs) : DT := fun M es post => ∀ p, M p = none → dPairs ps (mput M p (.dK [])) es fun M2 qs => M2 p = some (.dK []) ∧ ∃ kvs : List (Key × Sl), Paired (fun q kv => (∃ x, q.1 = Sl.d x ∧ keyOf x = some kv.1) ∧ q.2 = kv.2) qs kvs ∧ kvs.length ≤ 15 ∧ post (mput M2 p (.dK (gMerge [] kvs))) (.m p)
theorem ks_merge {K : PySem.W.Frag} {F : Hp} : ∀ {more : List (Key × V)} {mores : List (Key × Sl)} {kws : List (Key × V)} {kvs : List (Key × Sl)}, KS K F more mores → KS K F kws kvs → KS K F (mergeK kws more) (gMerge kvs mores)
  | _, _, _, _, .nil, h => h
  | (k1, v1) :: more, (k2, s2) :: mores, kws, kvs, .cons h r, hk => by
    have h1 : k1 = k2 := h.1
    subst h1
    exact ks_merge (kws := putK kws k1 v1) (kvs := gPut kvs k1 s2) r (ks_put h.2 hk)
theorem lift_pairs {K : PySem.W.Frag} : ∀ {ps : DPs} {σ : L2.St} {H F : Hp} {M : MHp} {es : List Sl} {post : MHp → List (Sl × Sl) → Prop} {Q : List (V × V) → Hp → Prop}, Hs K F M H → Env K F σ es → dPairs ps M es post →
    (∀ M' qs F' H' vs, post M' qs → Same F F' → Hs K F' M' H' → Paired (fun (p : V × V) (q : Sl × Sl) => SlR K F' p.1 q.1 ∧ SlR K F' p.2 q.2) vs qs → Q vs H') → tPairs (ps.map fun p => (lift K p.1, lift K p.2)) σ H Q
  | [], σ, H, F, M, es, post, Q, hs, he, ht, hf => hf _ _ F H [] ht (Same.refl F) hs .nil
  | (τk, τv) :: r, σ, H, F, M, es, post, Q, hs, he, ht, hf => by
    refine ⟨F, M, es, _, hs, he, ht, fun M1 sk F1 H1 vk p1 e1 hs1 r1 => ?_⟩
    refine ⟨F1, M1, es, _, hs1, he.mono e1, p1, fun M2 sv F2 H2 vv p2 e2 hs2 r2 => ?_⟩
    exact lift_pairs hs2 ((he.mono e1).mono e2) p2 fun M3 qs F3 H3 vs p3 e3 hs3 r3 => hf _ _ F3 H3 _ p3 ((e1.trans e2).trans e3) hs3 (.cons ⟨(r1.mono e2).mono e3, r2.mono e3⟩ r3)
theorem disp_keys {K : PySem.W.Frag} {F : Hp} : ∀ {vs : List (V × V)} {qs : List (Sl × Sl)} {kvs : List (Key × Sl)}, Paired (fun (p : V × V) (q : Sl × Sl) => SlR K F p.1 q.1 ∧ SlR K F p.2 q.2) vs qs → Paired (fun q kv => (∃ x, q.1 = Sl.d x ∧ keyOf x = some kv.1) ∧ q.2 = kv.2) qs kvs →
    ∃ kws : List (Key × V), vs = kws.map (fun kv => (kV kv.1, kv.2)) ∧ KS K F kws kvs
  | _, _, _, .nil, .nil => ⟨[], rfl, .nil⟩
  | (v1, v2) :: vs, (s1, s2) :: qs, (k, s) :: kvs, .cons h r, .cons h' r' => by
    obtain ⟨kws, e, hk⟩ := disp_keys r r'
    obtain ⟨⟨x, e1, e2⟩, e3⟩ := h'
    have e1 : s1 = .d x := e1
    have e3 : s2 = s := e3
    subst e1 e3
    refine ⟨(k, v2) :: kws, ?_, .cons ⟨rfl, h.2⟩ hk⟩
    have hk1 : v1 = kV k := key_at h.1 e2
    rw [e, List.map_cons, hk1]
theorem pd_disp {keys : List (Option Expr)} {values : List Expr} {ps : DPs} (h : PPs X pos keys values (ps.map fun p => (lift X.K p.1, lift X.K p.2))) (hall : keys.all (·.isSome) = true) (hl : keys.length = values.length) (h0 : keys ≠ []) (h15 : keys.length ≤ 15) : PD X (.Dict keys values pos) (dDisp ps) := peI (pe_disp h hall hl h0 h15) fun σ H Q hq => by
  obtain ⟨F, M, es, post, hs, he, ht, hf⟩ := hq
  intro p np
  refine lift_pairs (hs.newM (o := .dK []) np ⟨[], upd_same, .nil⟩) he (ht p (hs.freeM np)) fun M2 qs F2 H2 vs p2 e2 hs2 r2 => ?_
  obtain ⟨hM, kvs, hk, hl, hp⟩ := p2
  obtain ⟨kws, rfl, hks⟩ := disp_keys r2 hk
  obtain ⟨kw0, h1, h2⟩ := (show ∃ kws, H2 p = some (.dK kws) ∧ KS X.K F2 kws [] from hs2.ok _ _ hM)
  cases h2
  exact ⟨h1, kws, rfl, by rw [Paired.len' hks]; exact hl, hf _ _ F2 _ _ hp e2 (hs2.set (o := .dK (gMerge [] kvs)) hM ⟨_, upd_same, ks_merge hks .nil⟩) rfl⟩

/-! ### methods of built-in types -/
def TyS (T : String) (M : MHp) (s : Sl) : Prop := match s with
  | .d (.str _) => T = "str"
  | .d (.int _) => T = "int"
  | .d (.list _) => T = "list"
  | .s _ => T = "list"
  | .m a => (T = "list" ∧ ∃ ss, M a = some (.lst ss)) ∨ (T = "dict" ∧ ((∃ ss, M a = some (.dK ss)) ∨ ∃ ss, M a = some (.dT ss)))
  | _ => False
theorem TyS.at {K : PySem.W.Frag} {F : Hp} {M : MHp} {H : Hp} {T : String} {s : Sl} {v : V} (h : TyS T M s) (hs : Hs K F M H) (r : SlR K F v s) : tyV K T v H := by
  unfold TyS at h
  split at h
  · rw [dq_str r]; exact h
  · rw [dq_int r]; exact h
  · obtain ⟨a, vs, rfl, h1, h2⟩ := dq_lst r; exact .inl ⟨h, vs, SqL.of (hs.ex _ _ h1)⟩
  · obtain ⟨a, rfl, h1⟩ := r; exact .inl ⟨h, _, sq_same hs.ex h1⟩
  · rename_i a
    have r : v = .ref a := r
    subst r
    rcases h with ⟨h, ss, hM⟩ | ⟨h, ⟨ss, hM⟩ | ⟨ss, hM⟩⟩
    · obtain ⟨vs, h1, _⟩ := hs.lst hM; exact .inl ⟨h, vs, SqL.of h1⟩
    · obtain ⟨kws, h1, _⟩ := (show ∃ kws, H a = some (.dK kws) ∧ KS K F kws ss from hs.ok _ _ hM); exact .inr (.inr (.inl ⟨h, .inl ⟨kws, h1⟩⟩))
    · obtain ⟨kws, h1, _⟩ := (show ∃ kws, H a = some (.dT kws) ∧ KS K F kws ss from hs.ok _ _ hM); exact .inr (.inr (.inl ⟨h, .inr ⟨kws, h1⟩⟩))
  · exact h.elim
abbrev DM := Sl → List Sl → MHp → DP → Prop
def SndM (K : PySem.W.Frag) (r : V → List V → Hp → VK → Prop) (ρ : DM) : Prop := ∀ F M H v s vs ss post Q, Hs K F M H → SlR K F v s → SlsR K F vs ss → ρ s ss M post → Fol K F post Q → r v vs H Q
def dBM0 (T : String) (ρ : DM) (τo : DT) : DT := fun M es post => τo M es fun M1 s => TyS T M1 s ∧ ρ s [] M1 post
def dBM (T : String) (ρ : DM) (τo : DT) (α : DA) : DT := fun M es post => τo M es fun M1 s => TyS T M1 s ∧ α M1 es fun M2 ss => ρ s ss M2 post
theorem lift_bm0 {K : PySem.W.Frag} {T : String} {r : V → List V → Hp → VK → Prop} {ρ : DM} (h : SndM K r ρ) {σ : L2.St} {H : Hp} {Q : VK} (hq : lift K (dBM0 T ρ τo) σ H Q) : tBM0 K T r (lift K τo) σ H Q := by
  obtain ⟨F, M, es, post, hs, he, ht, hf⟩ := hq
  refine ⟨F, M, es, _, hs, he, ht, fun M1 s F1 H1 v p1 e1 hs1 r1 => ?_⟩
  exact ⟨p1.1.at hs1 r1, h F1 M1 H1 v s [] [] post Q hs1 r1 .nil p1.2 (hf.mono e1)⟩
theorem lift_bm {K : PySem.W.Frag} {T : String} {r : V → List V → Hp → VK → Prop} {ρ : DM} {α : DA} (h : SndM K r ρ) {σ : L2.St} {H : Hp} {Q : VK} (hq : lift K (dBM T ρ τo α) σ H Q) : tBM K T r (lift K τo) (liftA K α) σ H Q := by
  obtain ⟨F, M, es, post, hs, he, ht, hf⟩ := hq
  refine ⟨F, M, es, _, hs, he, ht, fun M1 s F1 H1 v p1 e1 hs1 r1 => ?_⟩
  refine ⟨p1.1.at hs1 r1, F1, M1, es, _, hs1, he.mono e1, p1.2, fun M2 ss F2 H2 vs p2 e2 hs2 r2 => ?_⟩
  exact h F2 M2 H2 v s vs ss post Q hs2 (r1.mono e2) r2 p2 ((hf.mono e1).mono e2)
/-- xs.append(y) -/
def ρApp : DM := fun s ss M post => match s, ss with
  | .m a, [y] => ∃ xs, M a = some (.lst xs) ∧ xs.length < sizeLine ∧ post (mput M a (.lst (xs ++ [y]))) (.d .none)
  | _, _ => False
theorem snd_app {K : PySem.W.Frag} : SndM K rAppend ρApp := by
  intro F M H v s vs ss post Q hs r0 rs h hf
  unfold ρApp at h
  split at h
  · rename_i a y
    obtain ⟨xs, hM, hl, hp⟩ := h
    obtain ⟨w, rfl, rw'⟩ := sls1 rs
    obtain ⟨us, h1, h2⟩ := hs.lst hM
    exact ⟨a, us, w, r0, rfl, h1, by rw [Paired.len' h2]; exact hl, hf _ _ F _ _ hp (Same.refl F) (hs.set (o := .lst (xs ++ [y])) hM ⟨_, upd_same, Paired.app' h2 (.cons rw' .nil)⟩) .non⟩
  · exact h.elim
end
end DL
set_option Elab.async false
set_option autoImplicit false
set_option linter.all false
set_option maxRecDepth 100000
set_option maxHeartbeats 2000000
namespace DL
open PySem PySem.Spec PyProof.Rows L2

/-! ### isinstance -/
/-- the built-in type of a slot -/
def tyN (M : MHp) (s : Sl) (T : String) : Prop := match s with
  | .d .none => T = "NoneType"
  | .d (.bool _) => T = "bool"
  | .d (.int _) => T = "int"
  | .d (.str _) => T = "str"
  | .d (.list _) => T = "list"
  | .d (.tuple _) => T = "tuple"
  | .m a => match M a with
    | some (.lst _) => T = "list"
    | some (.dK _) => T = "dict"
    | some (.dT _) => T = "dict"
    | _ => False
  | .t _ => T = "tuple"
  | _ => False
theorem tyN.at {K : PySem.W.Frag} {F : Hp} {M : MHp} {H : Hp} {T : String} {s : Sl} {v : V} (h : tyN M s T) (hs : Hs K F M H) (r : SlR K F v s) : TyX K H v (.type T) := by
  unfold tyN at h
  split at h
  · subst h; rw [dq_non r]; exact .base .non
  · subst h; rw [dq_bl r]; exact .base (.bl _)
  · subst h; rw [dq_int r]; exact .base (.int _)
  · subst h; rw [dq_str r]; exact .base (.str _)
  · subst h; obtain ⟨a, vs, rfl, h1, h2⟩ := dq_lst r; exact .base (.lst (hs.ex _ _ h1))
  · subst h; obtain ⟨a, vs, rfl, h1, h2⟩ := dq_tup r; exact .base (.tup (hs.ex _ _ h1))
  · rename_i a
    have r : v = .ref a := r
    subst r
    split at h
    · rename_i ss hM; subst h; obtain ⟨vs, h1, _⟩ := hs.lst hM; exact .base (.lst h1)
    · rename_i ss hM; subst h; obtain ⟨kws, h1, _⟩ := (show ∃ kws, H a = some (.dK kws) ∧ KS K F kws ss from hs.ok _ _ hM); exact .base (.dK h1)
    · rename_i ss hM; subst h; obtain ⟨kws, h1, _⟩ := (show ∃ kws, H a = some (.dT kws) ∧ KS K F kws ss from hs.ok _ _ hM); exact .base (.dT h1)
    · exact h.elim
  · subst h; obtain ⟨a, vs, rfl, h1, h2⟩ := r; exact .base (.tup (hs.ex _ _ h1))
  · exact h.elim
/-- is the type T one of Ts (bool is an int, too) -/
def isT (T : String) (Ts : List String) : Bool := Ts.any fun U => T == U || (T == "bool" && U == "int")
def okTy (T : String) : Bool := T == "NoneType" || T == "bool" || T == "int" || T == "str" || T == "list" || T == "tuple" || T == "dict"
theorem kit_all : ∀ T ∈ ["NoneType", "bool", "int", "str", "list", "tuple", "dict"], ∀ U ∈ ["bool", "int", "str", "list", "tuple", "dict"], kitB T U = some (isT T [U]) := by decide +kernel
theorem okTy_mem {T : String} (h : okTy T = true) : T ∈ ["NoneType", "bool", "int", "str", "list", "tuple", "dict"] := by
  simp only [okTy, Bool.or_eq_true, beq_iff_eq] at h
  simp only [List.mem_cons, List.mem_nil_iff, or_false]
  rcases h with (((((h | h) | h) | h) | h) | h) | h <;> simp [h]
def okTy2 (T : String) : Bool := T == "bool" || T == "int" || T == "str" || T == "list" || T == "tuple" || T == "dict"
theorem okTy2_mem {T : String} (h : okTy2 T = true) : T ∈ ["bool", "int", "str", "list", "tuple", "dict"] := by
  simp only [okTy2, Bool.or_eq_true, beq_iff_eq] at h
  simp only [List.mem_cons, List.mem_nil_iff, or_false]
  rcases h with ((((h | h) | h) | h) | h) | h <;> simp [h]
theorem tyN_ok {M : MHp} {s : Sl} {T : String} (h : tyN M s T) : okTy T = true := by
  unfold tyN at h
  split at h
  · subst h; rfl
  · subst h; rfl
  · subst h; rfl
  · subst h; rfl
  · subst h; rfl
  · subst h; rfl
  · split at h
    · subst h; rfl
    · subst h; rfl
    · subst h; rfl
    · exact h.elim
  · subst h; rfl
  · exact h.elim
theorem kitAny_of {K : PySem.W.Frag} {T : String} (hT : okTy T = true) : ∀ {Ts : List String}, Ts.all okTy2 = true → PySem.W.kitAny K (.type T) (Ts.map Value.type) = some (isT T Ts)
  | [], _ => rfl
  | U :: Us, h => by
    rw [List.all_cons, Bool.and_eq_true] at h
    have h1 := kit_all T (okTy_mem hT) U (okTy2_mem h.1)
    have e : isT T (U :: Us) = (isT T [U] || isT T Us) := by simp [isT]
    rw [e]
    refine kitAny_cons (kit_ty h1) (fun z => ?_) (fun z => ?_)
    · rw [z, Bool.false_or]; exact kitAny_of hT h.2
    · rw [z, Bool.true_or]
def dIsi (Ts : List String) (τ : DT) : DT := fun M es post => τ M es fun M1 s => ∃ T, tyN M1 s T ∧ post M1 (.d (.bool (isT T Ts)))
section
variable {X : Cx} {e : Expr} {τ : DT} {pos p p2 p3 : Pos}
/-- isinstance(e, T) -/
theorem pd_isi {U : String} {U' : Str} (h2 : okTy2 U = true) (hg : Gl X "isinstance") (hm : X.mg "isinstance" = none) (hg' : Gl X U') (hm' : X.mg U' = none) (hv' : bootBuiltins U' = some (.type U)) (he : PD X e τ)
    (hn' : U' ≠ "__name__" := by decide) (hd' : (U' == ("__debug__" : Str)) = false := by decide)
    (h1 : starEach [e, .Name U' p2] X.env = (false, eval e X.env) :: starEach [.Name U' p2] X.env := by rfl) (h3 : starEach [.Name U' p2] X.env = (false, eval (.Name U' p2) X.env) :: starEach [] X.env := by rfl) (hpl : (backTo pos (starEach [.Name U' p2] X.env)).any (·.1) = false := by rfl) :
    PD X (.Call (.Name "isinstance" p) [e, .Name U' p2] [] pos) (dIsi [U] τ) := by
  have hc : PE X (.Name U' p2) (tC (.ty U)) := pe_bltn hg' hm' hv' rfl hn' hd'
  refine peI (pe_callB call_isi hg hm (by decide +kernel) (pa_cons he (pa_cons hc pa_nil h3) h1) (he := h1) (hpl := hpl)) fun σ H Q hq => ?_
  obtain ⟨F, M, es, post, hs, he, ht, hf⟩ := hq
  refine ⟨F, M, es, _, hs, he, ht, fun M1 s F1 H1 v p1 e1 hs1 r1 => ?_⟩
  obtain ⟨T, hT, hp⟩ := p1
  exact ⟨v, .ty U, .type T, .type U, _, rfl, .ty U, hT.at hs1 r1, kit_ty (kit_all T (okTy_mem (tyN_ok hT)) U (okTy2_mem h2)), (hf.mono e1).dat hs1 (.bl _) hp⟩
/-- isinstance(e, (T, U)) -/
theorem pd_isi2 {U W : String} {U' W' : Str} {k : Nat} {p4 : Pos} (h2 : okTy2 U = true) (h2' : okTy2 W = true) (hg : Gl X "isinstance") (hm : X.mg "isinstance" = none) (hg' : Gl X U') (hm' : X.mg U' = none) (hv' : bootBuiltins U' = some (.type U))
    (gW : Gl X W') (mW : X.mg W' = none) (vW : bootBuiltins W' = some (.type W)) (he : PD X e τ)
    (hn' : U' ≠ "__name__" := by decide) (hd' : (U' == ("__debug__" : Str)) = false := by decide) (hnW : W' ≠ "__name__" := by decide) (hdW : (W' == ("__debug__" : Str)) = false := by decide)
    (s1 : starEach [.Name U' p2, .Name W' p3] X.env = (false, eval (.Name U' p2) X.env) :: starEach [.Name W' p3] X.env := by rfl) (s2 : starEach [.Name W' p3] X.env = (false, eval (.Name W' p3) X.env) :: starEach [] X.env := by rfl)
    (h1 : starEach [e, .Tuple [.Name U' p2, .Name W' p3] k p4] X.env = (false, eval e X.env) :: starEach [.Tuple [.Name U' p2, .Name W' p3] k p4] X.env := by rfl) (h3 : starEach [.Tuple [.Name U' p2, .Name W' p3] k p4] X.env = (false, eval (.Tuple [.Name U' p2, .Name W' p3] k p4) X.env) :: starEach [] X.env := by rfl) (hpl : (backTo pos (starEach [.Tuple [.Name U' p2, .Name W' p3] k p4] X.env)).any (·.1) = false := by rfl) :
    PD X (.Call (.Name "isinstance" p) [e, .Tuple [.Name U' p2, .Name W' p3] k p4] [] pos) (dIsi [U, W] τ) := by
  have hc : PE X (.Name U' p2) (tC (.ty U)) := pe_bltn hg' hm' hv' rfl hn' hd'
  have hc2 : PE X (.Name W' p3) (tC (.ty W)) := pe_bltn gW mW vW rfl hnW hdW
  have ht : PE X (.Tuple [.Name U' p2, .Name W' p3] k p4) (tTup (tCons (tC (.ty U)) (tCons (tC (.ty W)) tNil))) := pe_tup (pa_cons hc (pa_cons hc2 pa_nil s2) s1)
  refine peI (pe_callB call_isiT hg hm (by decide +kernel) (pa_cons he (pa_cons ht pa_nil h3) h1) (he := h1) (hpl := hpl)) fun σ H Q hq => ?_
  obtain ⟨F, M, es, post, hs, he, ht, hf⟩ := hq
  refine ⟨F, M, es, _, hs, he, ht, fun M1 s F1 H1 v p1 e1 hs1 r1 => ?_⟩
  obtain ⟨T, hT, hp⟩ := p1
  refine ⟨by show 2 ≤ sizeLine; decide, fun q hq => ?_⟩
  obtain ⟨e2, hs2⟩ := hs1.newD (o := .tup [.ty U, .ty W]) hq
  refine ⟨v, q, [.ty U, .ty W], .type T, [.type U, .type W], _, rfl, upd_same, .cons (.ty U) (.cons (.ty W) .nil), hT.at hs2 (r1.mono e2), kitAny_of (tyN_ok hT) (Ts := [U, W]) (by simp [h2, h2']), ((hf.mono e1).mono e2).dat hs2 (.bl _) hp⟩
end

/-! ### sorted of pairs of ints -/
def ltPI (p q : Int × Int) : Bool := decide (p.1 < q.1) || (decide (p.1 = q.1) && decide (p.2 < q.2))
def prD (p : Int × Int) : PyData := .tuple [.int p.1, .int p.2]
/-- a def at data level -/
theorem start_env {K : PySem.W.Frag} {F : Hp} {vs : List V} {ss : List Sl} (h : SlsR K F vs ss) : ∀ (n : Nat), Env K F (vs.map some ++ List.replicate n none) (ss ++ List.replicate n .n) := by
  have h0 : ∀ n : Nat, Env K F (List.replicate n none) (List.replicate n .n) := fun n => by
    induction n with
    | zero => exact .nil
    | succ n ih => rw [List.replicate_succ, List.replicate_succ]; exact .cons trivial ih
  have h1 : Env K F (vs.map some) ss := by
    induction h with
    | nil => exact .nil
    | cons r _ ih => exact .cons (OR.some r) ih
  exact fun n => Paired.app' h1 (h0 n)
section
variable {P : Program} {w : World} {K : PySem.W.Frag} {mg : Str → Option Value} {base : Heap}
/-- what a def does: its body's transformer does what φ says -/
def Ret (post : DP) : DP := fun M s => ∃ M', Sub M' M ∧ post M' s
def Does (n : Nat) (φ : DF) (ς : DS) : Prop := ∀ M ss post, φ M ss post → ς { nx := fun M' _ => Ret post M' (.d .none), rt := Ret post } M (ss ++ List.replicate (n - ss.length) .n)
theorem okD {x qual : Str} {st : Stmt} {f : Addr} {fd : FuncData} {N ps : List Str} {k : Nat} {φ : DF} {ς : DS} (F : Fun K x qual st f fd) (S : FnScope N ps (defScope st)) (len : ∀ M ss post, φ M ss post → ss.length = ps.length)
    (der : ∀ (cdv : Value) (A : Around) (outer : List PySem.Env) (s : Shared) (H : Hp) (E : XK), Room k (A.deeper (envOfC qual (defScope st) s.heap.objs.size f cdv)) → PDSs (cxOf CX0 P w K mg base N qual (defScope st) f cdv A outer s H E).nox (defBody st) ς)
    (does : Does N.length φ ς) : FnOk P w K mg base CX0 (k + 1) f fd ps (spD K φ) := by
  refine F.ok S (fun vs H Q E h => ?_) (fun cdv A outer s H vs Q E hr h => ?_)
  · obtain ⟨F, M, ss, post, _, r, hp, _⟩ := h
    rw [Paired.len' r]; exact len M ss post hp
  · obtain ⟨F1, M, ss, post, hs, r, hp, hf⟩ := h
    refine ⟨_, der cdv A outer s H E hr, F1, M, _, _, hs, ?_, does M ss post hp, ⟨fun M1 es1 F2 σ2 H2 p2 e2 hs2 he2 => let ⟨_, q1, q2⟩ := p2; (hf.mono e2).dat (hs2.sub q1) .non q2, fun M1 s F2 H2 v p2 e2 hs2 r2 => let ⟨_, q1, q2⟩ := p2; hf _ _ F2 H2 v q2 e2 (hs2.sub q1) r2, fun _ _ _ _ _ z => z.elim, fun _ _ _ _ _ z => z.elim⟩⟩
    show Env K F1 (L2.start N vs) _
    unfold L2.start
    rw [Paired.len' r]
    exact start_env r _
end
/-! ### short ways -/
/-- a comprehension of data, nothing else being changed -/
theorem lc_pure {ι : DI} {t : Tg} {θ : DTT} {τ : DT} {vs : List Nat} {M : MHp} {es : List Sl} {post : DP} (w : Wk) (f : Nat → Option PyData) (hi : ∀ k : MHp → Wk → Prop, k M w → ι M es k) (hn : w.n ≤ 10000000)
    (hG : ∀ Dn acc, M Dn = none → w.G (mput M Dn (.lst acc)))
    (ht : ∀ i, i < w.n → ∀ Dn acc, M Dn = none → ∀ (A : DP) (B : MHp → Prop), (∀ d, f i = some d → A (mput M Dn (.lst acc)) (.d d)) → (f i = none → B (mput M Dn (.lst acc))) → t.set (w.y i) (mput M Dn (.lst acc)) (wipeS es vs) fun es2 => θ (mput M Dn (.lst acc)) es2 fun M2 b => if b = true then τ M2 es2 A else B M2)
    (hp : post M (.d (.list ((List.range w.n).filterMap f)))) : dLc finD ι t θ τ vs M es post := by
  refine hi _ fun Dn hD => ⟨fun i M' acc => M' = mput M Dn (.lst acc) ∧ acc = ((List.range i).filterMap f).map Sl.d ∧ i ≤ w.n, ⟨rfl, rfl, Nat.zero_le _⟩, ?_, ?_, ?_⟩
  · rintro i M' acc hi ⟨rfl, e, _⟩
    exact ⟨hG Dn acc hD, mput_same⟩
  · rintro i M' acc hi ⟨rfl, e, hin⟩
    have hl : acc.length ≤ i := by
      rw [e, List.length_map]
      exact Nat.le_trans (List.length_filterMap_le _ _) (by simp)
    refine ht i hi Dn acc hD _ _ (fun d hf => ?_) (fun hf => ?_)
    · refine ⟨mput_same, Nat.lt_of_le_of_lt (Nat.le_trans hl (Nat.le_trans (Nat.le_of_lt hi) hn)) (by rw [sizeLine_eq]; decide), by rw [mput_mput], ?_, hi⟩
      rw [List.range_succ, List.filterMap_append, List.map_append, ← e]
      simp [List.filterMap_cons, hf]
    · refine ⟨rfl, ?_, hi⟩
      rw [List.range_succ, List.filterMap_append, ← List.append_nil acc, e]
      simp [List.filterMap_cons, hf]
  · rintro M' acc ⟨rfl, e, _⟩
    exact ⟨_, e, by rw [mdel_mput hD]; exact hp⟩
/-! ### what the generator writes with -/
structure Cal (P : Program) (w : World) (K : PySem.W.Frag) (mg : Str → Option Value) (base : Heap) (k : Nat) (x : Str) (φ : DF) : Prop where
  ex : ∃ (f : Addr) (fd : FuncData) (ps : List Str), FnOk P w K mg base CX0 k f fd ps (spD K φ) ∧ mg x = some (.ref f) ∧ PySem.W.keepIn K (.ref f) = true ∧ Binds K fd ps []
structure DfA (K : PySem.W.Frag) (mg : Str → Option Value) (x : Str) (st : Stmt) (ps : List Str) : Prop where
  ex : ∃ f fd, Fun K x x st f fd ∧ mg x = some (.ref f) ∧ Binds K fd ps []
section
variable {P : Program} {w : World} {K : PySem.W.Frag} {mg : Str → Option Value} {base : Heap}
theorem calD {x : Str} {st : Stmt} {N ps : List Str} {k : Nat} {φ : DF} {ς : DS} (F : DfA K mg x st ps) (S : FnScope N ps (defScope st)) (len : ∀ M ss post, φ M ss post → ss.length = ps.length)
    (der : ∀ (f : Addr) (cdv : Value) (A : Around) (outer : List PySem.Env) (s : Shared) (H : Hp) (E : XK), Room k (A.deeper (envOfC x (defScope st) s.heap.objs.size f cdv)) → PDSs (cxOf CX0 P w K mg base N x (defScope st) f cdv A outer s H E).nox (defBody st) ς)
    (does : Does N.length φ ς) : Cal P w K mg base (k + 1) x φ := by
  obtain ⟨f, fd, F1, m, b⟩ := F.ex
  exact ⟨f, fd, ps, okD F1 S len (der f) does, m, F1.kp, b⟩
variable {X : Cx} {o e : Expr} {es : List Expr} {α : DA} {τo : DT} {p pos apos : Pos}
theorem pd_callC {k j : Nat} {φ : DF} {x : Str} (c : Cal X.prog X.w X.K X.mg X.base k x φ) (hr : Room j X.A) (hk : k ≤ j) (hg : Gl X x)
    (ha : PDA X (e :: es) α) (hd : (x == ("__debug__" : Str)) = false := by decide) (he : starEach (e :: es) X.env = (false, eval e X.env) :: starEach es X.env := by rfl) (hpl : (backTo pos (starEach es X.env)).any (·.1) = false := by rfl) : PD X (.Call (.Name x p) (e :: es) [] pos) (dCall φ α) := by
  obtain ⟨f, fd, ps, G, m, kp, b⟩ := c.ex
  exact pd_call G (hr.mono hk) hg m kp b ha hd he hpl
theorem pd_append (ho : PD X o τo) (ha : PDA X [e] α)
    (hbase : attributeBase o "append" X.env (eval o X.env) = eval o X.env := by rfl)
    (hfew : ((backTo pos (starEach [e] X.env)).all (fun x => !x.1) && (backToKw pos (keywordEach [] X.env)).all (fun x => x.1.isSome)
      && decide ([e].length + ([] : List Keyword).length + (if ([] : List Keyword).isEmpty then 0 else 1) < 30)) = true := by rfl)
    (hline : (apos.endLine == pos.line) = true := by rfl) (hs : starEach [e] X.env = (false, eval e X.env) :: starEach [] X.env := by rfl) (hplain : (backTo pos (starEach [] X.env)).any (·.1) = false := by rfl) :
    PD X (.Call (.Attribute o "append" apos) [e] [] pos) (dBM "list" ρApp τo α) := peI (pe_bm PySem.F.plainAttrs_list PySem.F.slot_list_append PySem.F.type_list_append mt_append ho ha hbase hfew hline hs hplain) fun _ _ _ hq => lift_bm snd_app hq
/-- d[k] -/
def ρDk : DR2 := fun s1 s2 M post => ∃ a x s, s1 = .m a ∧ s2 = .d x ∧ GetS M a x (some s) ∧ post M s
theorem pd_dk {a b : Expr} {τa τb : DT} (hu : X.A.units + 1 < cLine) (ha : PD X a τa) (hb : PD X b τb) (hs : PlainIx b) : PD X (.Subscript a b pos) (dOp ρDk τa τb) := pd_ix (ix_dict hu) (by
  intro F M H v1 v2 s1 s2 post Q hs r1 r2 h hf
  obtain ⟨a, x, s, rfl, rfl, hg, hp⟩ := h
  obtain ⟨ov, h1, h2, _⟩ := hg.at hs r2
  obtain ⟨v, rfl, h3⟩ := h2 s rfl
  exact ⟨a, v, r1, h1, hf.here hs h3 hp⟩) ha hb hs
/-- a def of which nothing is said -/
theorem calF {x : Str} {st : Stmt} {ps : List Str} (F : DfA K mg x st ps) : Cal P w K mg base 0 x (fun _ _ _ => False) := by
  obtain ⟨f, fd, F1, m, b⟩ := F.ex
  refine ⟨f, fd, ps, ⟨fun vs H Q E h => ?_, fun A outer s H args us vs Q E _ _ _ _ h => ?_⟩, m, F1.kp, b⟩
  · obtain ⟨_, _, _, _, _, _, h, _⟩ := h; exact h.elim
  · obtain ⟨_, _, _, _, _, _, h, _⟩ := h; exact h.elim
end
end DL
set_option Elab.async false
set_option autoImplicit false
set_option linter.all false
set_option maxRecDepth 100000
set_option maxHeartbeats 2000000
namespace DL
open PySem PySem.Spec PyProof.Rows L2
theorem vals_back : ∀ {xs : List V} {us : List Value} {i : Nat} {u : Value}, Vals xs us → us[i]? = some u → ∃ x, xs[i]? = some x ∧ RelV x u
  | _, _, _, _, .nil, e => by simp at e
  | _, _, 0, _, .cons r _, e => by simp at e; subst e; exact ⟨_, rfl, r⟩
  | _, _, i + 1, u, .cons _ t, e => by
    obtain ⟨x, h1, h2⟩ := vals_back (i := i) (u := u) t (by simpa using e)
    exact ⟨x, by simpa using h1, h2⟩
/-- min(xs), xs a list of data that can be compared -/
def rMinDt (K : PySem.W.Frag) : List V → Hp → VK → Prop := fun vs H Q => ∃ (a : Addr) (us : List V) (x : PyData) (xs : List PyData), vs = [.ref a] ∧ SqL K H a us ∧ DpAll K H us (x :: xs) ∧ PySem.W.AlikeAll (x :: xs) ∧ PyData.depthAll (x :: xs) ≤ 60 ∧
  ∀ (i : Nat) v, us[i]? = some v → (x :: xs)[i]? = some (PySem.W.minD x xs) → Q v H
theorem cr_minDt {X : Cx} (hc : X.calm = true) (hu : X.A.units + 64 < cLine) : CallR X (.builtin "min") (rMinDt X.K) := by
  intro pins s σ H vs ws Q I r h
  obtain ⟨a, us, x, xs, rfl, hq, hd, ha, hdep, hk⟩ := h
  obtain ⟨w, rfl, r1⟩ := Vals.one r
  cases (show w = Value.ref a from r1)
  obtain ⟨its, rv, p, hz⟩ := I.list hq
  obtain ⟨as, hr⟩ := Dp.readsAll I (x :: xs) us its hd rv
  refine PySem.W.min_list_data (vs := its.toArray) (I.ok.hd hc) p.isList (by simpa using hr) ha (by omega) fun i v h' tk bs hv hrd hkeep => ?_
  have hv' : its[i]? = some v := by simpa using hv
  obtain ⟨v0, h0, rv0⟩ := vals_back rv hv'
  obtain ⟨cs, hrd2, hlt, _, _⟩ := PySem.W.readsAll_at hr i v hv'
  have e := (Reads.unique (PySem.W.reads_keeps hkeep hrd2) _ _ hrd).1
  refine ⟨v0, H, I.kept (h' := h') (t' := tk) hkeep, rv0, hk i v0 h0 ?_⟩
  rw [← e, List.getD_eq_getElem?_getD, List.getElem?_eq_getElem hlt]
  rfl
def ρMinD : DB := fun ss M post => ∃ (s : Sl) (x : PyData) (xs : List PyData), ss = [s] ∧ LstOf M s (x :: xs) ∧ PySem.W.AlikeAll (x :: xs) ∧ PyData.depthAll (x :: xs) ≤ 60 ∧ post M (.d (PySem.W.minD x xs))
theorem snd_minD {K : PySem.W.Frag} : SndC K (rMinDt K) ρMinD := by
  intro F M H vs ss post Q hs r0 h hf
  obtain ⟨s, x, xs, rfl, h1, h2, h3, hp⟩ := h
  obtain ⟨v, rfl, r⟩ := sls1 r0
  obtain ⟨a, us, rfl, h4, h5⟩ := h1.at hs r
  refine ⟨a, us, x, xs, rfl, SqL.of h4, DqA.dp hs.ex _ _ h5, h2, h3, fun i v hv hx => ?_⟩
  obtain ⟨v', e, hd⟩ := h5.get hx
  rw [hv] at e
  cases e
  exact hf.dat hs hd hp
theorem pd_minD {X : Cx} {pos p : Pos} {e : Expr} {α : DA} (hc : X.calm = true) (hu : X.A.units + 64 < cLine) (hg : Gl X "min") (hm : X.mg "min" = none) (ha : PDA X [e] α) (he : starEach [e] X.env = (false, eval e X.env) :: starEach [] X.env := by rfl) : PD X (.Call (.Name "min" p) [e] [] pos) (dCB ρMinD α) := pd_callB (cr_minDt hc hu) snd_minD hg hm (by decide +kernel) ha (he := he)
end DL
set_option Elab.async false
set_option autoImplicit false
set_option linter.all false
set_option maxRecDepth 100000
namespace DL
open PySem PySem.Spec PyProof.Rows L2
/-! the operators at known slots -/
section
variable {M : MHp} {post : DP} {i j : Int} {x y : Str} {xs ys : List PyData} {b : Bool} {ns : List Int} {s t : Sl}
theorem ρAdd_int : ρAdd (.d (.int i)) (.d (.int j)) M post = post M (.d (.int (i + j))) := rfl
theorem ρAdd_str : ρAdd (.d (.str x)) (.d (.str y)) M post = (x.length + y.length ≤ sizeLine ∧ post M (.d (.str (x ++ y)))) := rfl
theorem ρAdd_tup : ρAdd (.d (.tuple xs)) (.d (.tuple ys)) M post = (xs.length + ys.length ≤ sizeLine ∧ post M (.d (.tuple (xs ++ ys)))) := rfl
theorem ρAdd_lst (h : xs.length + ys.length ≤ sizeLine ∧ post M (.d (.list (xs ++ ys)))) : ρAdd (.d (.list xs)) (.d (.list ys)) M post := ⟨xs, ys, rfl, rfl, h⟩
theorem ρAdd_ml {a : Addr} (hM : M a = some (.lst (xs.map Sl.d))) (h : xs.length + ys.length ≤ sizeLine ∧ post M (.d (.list (xs ++ ys)))) : ρAdd (.m a) (.d (.list ys)) M post := ⟨xs, ys, hM, rfl, h⟩
theorem ρAdd_lm {a : Addr} (hM : M a = some (.lst (ys.map Sl.d))) (h : xs.length + ys.length ≤ sizeLine ∧ post M (.d (.list (xs ++ ys)))) : ρAdd (.d (.list xs)) (.m a) M post := ⟨xs, ys, rfl, hM, h⟩
theorem ρSub_int : ρSub (.d (.int i)) (.d (.int j)) M post = post M (.d (.int (i - j))) := rfl
theorem ρMul_int : ρMul (.d (.int i)) (.d (.int j)) M post = (CMul i j ∧ post M (.d (.int (i * j)))) := rfl
theorem ρMul_lst (h : -(2 ^ 63) ≤ j ∧ j < 2 ^ 63 ∧ xs.length * j.toNat ≤ sizeLine ∧ post M (.d (.list (List.replicate j.toNat xs).flatten))) : ρMul (.d (.list xs)) (.d (.int j)) M post := ⟨xs, rfl, h⟩
theorem ρMod_int : ρMod (.d (.int i)) (.d (.int j)) M post = (0 < j ∧ post M (.d (.int (i % j)))) := rfl
theorem ρDiv_int : ρDiv (.d (.int i)) (.d (.int j)) M post = (CDivW i j ∧ post M (.d (.int (i / j)))) := rfl
theorem ρPow_int : ρPow (.d (.int i)) (.d (.int j)) M post = (CPow i j ∧ post M (.d (.int (i ^ j.toNat)))) := rfl
theorem ρLt_int : ρLt (.d (.int i)) (.d (.int j)) M post = post M (.d (.bool (decide (i < j)))) := rfl
theorem ρLe_int : ρLe (.d (.int i)) (.d (.int j)) M post = post M (.d (.bool (decide (i ≤ j)))) := rfl
theorem ρGt_int : ρGt (.d (.int i)) (.d (.int j)) M post = post M (.d (.bool (decide (j < i)))) := rfl
theorem ρGe_int : ρGe (.d (.int i)) (.d (.int j)) M post = post M (.d (.bool (decide (j ≤ i)))) := rfl
theorem ρNeg_int : ρNeg (.d (.int i)) M post = post M (.d (.int (-i))) := rfl
theorem ρIx_lst : ρIx (.d (.list xs)) (.d (.int i)) M post = ∃ d, atI xs i = some d ∧ post M (.d d) := rfl
theorem ρIx_tup : ρIx (.d (.tuple xs)) (.d (.int i)) M post = ∃ d, atI xs i = some d ∧ post M (.d d) := rfl
theorem ρIx_str : ρIx (.d (.str x)) (.d (.int i)) M post = (x.length ≤ sizeLine ∧ ∃ c, atI x.cps.toList i = some c ∧ post M (.d (.str ⟨#[c]⟩))) := rfl
theorem ρIx_scr : ρIx (.s ns) (.d (.int i)) M post = ∃ k, atI ns i = some k ∧ post M (.d (.int k)) := rfl
theorem ρIx_ml {a : Addr} {ss : List Sl} (hM : M a = some (.lst ss)) (h : ∃ s, atI ss i = some s ∧ post M s) : ρIx (.m a) (.d (.int i)) M post := by
  show (match M a with | some (.lst ss) => _ | _ => False)
  rw [hM]; exact h
theorem ρLen_lst : ρLen [.d (.list xs)] M post = post M (.d (.int xs.length)) := rfl
theorem ρLen_tup : ρLen [.d (.tuple xs)] M post = post M (.d (.int xs.length)) := rfl
theorem ρLen_str : ρLen [.d (.str x)] M post = (x.length ≤ sizeLine ∧ post M (.d (.int x.length))) := rfl
theorem ρLen_scr : ρLen [.s ns] M post = post M (.d (.int ns.length)) := rfl
theorem ρLen_m {a : Addr} {ss : List Sl} (hM : M a = some (.lst ss)) (h : post M (.d (.int ss.length))) : ρLen [.m a] M post := ⟨ss, hM, h⟩
theorem ρMax_2 : ρMax [.d (.int i), .d (.int j)] M post = post M (.d (.int (if j > i then j else i))) := rfl
theorem ρMin_2 : ρMin [.d (.int i), .d (.int j)] M post = post M (.d (.int (if j < i then j else i))) := rfl
theorem ρInt_int : ρInt [.d (.int i)] M post = post M (.d (.int i)) := rfl
theorem ρInt_bool : ρInt [.d (.bool b)] M post = post M (.d (.int (if b then 1 else 0))) := rfl
theorem ρApp_m {a : Addr} : ρApp (.m a) [s] M post = ∃ xs, M a = some (.lst xs) ∧ xs.length < sizeLine ∧ post (mput M a (.lst (xs ++ [s]))) (.d .none) := rfl
theorem ρEq_dd : ρEq (.d (.int i)) (.d (.int j)) M post = ∃ x y, DatOf M (.d (.int i)) x ∧ DatOf M (.d (.int j)) y ∧ SeqAt.shaped x = true ∧ SeqAt.shaped y = true ∧ post M (.d (.bool (PyData.eqv x y))) := rfl
theorem ρEq_d {u v : PyData} (h : SeqAt.shaped u = true ∧ SeqAt.shaped v = true ∧ post M (.d (.bool (PyData.eqv u v)))) : ρEq (.d u) (.d v) M post := ⟨u, v, rfl, rfl, h⟩
theorem ρNe_d {u v : PyData} (h : SeqAt.shaped u = true ∧ SeqAt.shaped v = true ∧ post M (.d (.bool (!PyData.eqv u v)))) : ρNe (.d u) (.d v) M post := ⟨u, v, rfl, rfl, h⟩
variable {pt : MHp → Bool → Prop} {pw : MHp → Wk → Prop}
theorem ρTru_b : ρTru (.d (.bool b)) M pt = pt M b := rfl
theorem ρTru_n : ρTru (.d .none) M pt = pt M false := rfl
theorem ρTru_i : ρTru (.d (.int i)) M pt = pt M (i != 0) := rfl
theorem ρTru_l : ρTru (.d (.list xs)) M pt = pt M (!xs.isEmpty) := rfl
theorem ρTru_t : ρTru (.d (.tuple xs)) M pt = pt M (!xs.isEmpty) := rfl
theorem ρWk_l : ρWk (.d (.list xs)) M pw = pw M (wkD xs) := rfl
theorem ρWk_t : ρWk (.d (.tuple xs)) M pw = pw M (wkD xs) := rfl
theorem ρWk_s : ρWk (.s ns) M pw = pw M (wkD (ns.map PyData.int)) := rfl
theorem ρWk_m {a : Addr} : ρWk (.m a) M pw = ∃ ss, M a = some (.lst ss) ∧ pw M (wkM a ss) := rfl
variable {lo hi : Option Int}
theorem ρSl_t : ρSl (.d (.tuple xs)) lo hi M post = post M (.d (.tuple (cutD xs lo hi))) := rfl
theorem ρSl_s : ρSl (.d (.str x)) lo hi M post = (x.length ≤ sizeLine ∧ post M (.d (.str (cutS x lo hi)))) := rfl
theorem ρSl_c : ρSl (.s ns) lo hi M post = post M (.d (.list (cutD (ns.map PyData.int) lo hi))) := rfl
theorem ρSl_l (h : post M (.d (.list (cutD xs lo hi)))) : ρSl (.d (.list xs)) lo hi M post := ⟨xs, rfl, h⟩
theorem dV_eq {es : List Sl} {k : Nat} (h : es[k]? = some s) (hn : s ≠ .n) (hp : post M s) : dV k M es post := by
  unfold dV dVs; rw [h]
  cases s with
  | n => exact absurd rfl hn
  | d _ => exact hp
  | m _ => exact hp
  | s _ => exact hp
  | t _ => exact hp
  | c _ => exact hp
  | o _ _ => exact hp
  | f _ => exact hp
theorem ρIx_t {ss : List Sl} : ρIx (.t ss) (.d (.int i)) M post = ∃ s, atI ss i = some s ∧ post M s := rfl
theorem ρLen_t {ss : List Sl} : ρLen [.t ss] M post = post M (.d (.int ss.length)) := rfl
theorem ρTru_tt {ss : List Sl} : ρTru (.t ss) M pt = pt M (!ss.isEmpty) := rfl
theorem ρWk_tt {ss : List Sl} : ρWk (.t ss) M pw = pw M ⟨ss.length, fun i => ss.getD i .n, fun _ => True⟩ := rfl
theorem dB_d {τ : DT} {es : List Sl} : dB τ M es pt = τ M es fun M1 s => ∃ k, s = .d (.bool k) ∧ pt M1 k := rfl
end
theorem dVs_d {M : MHp} {post : DP} {x : PyData} : dVs (some (.d x)) M post = post M (.d x) := rfl
theorem dVs_m {M : MHp} {post : DP} {x : Addr} : dVs (some (.m x)) M post = post M (.m x) := rfl
theorem dVs_t {M : MHp} {post : DP} {x : List Sl} : dVs (some (.t x)) M post = post M (.t x) := rfl
theorem dVs_s {M : MHp} {post : DP} {x : List Int} : dVs (some (.s x)) M post = post M (.s x) := rfl
theorem setAll_c {es : List Sl} {j : Nat} {js : List Nat} {s : Sl} {ss : List Sl} : setAll es (j :: js) (s :: ss) = setAll (es.set j s) js ss := rfl
theorem setAll_n {es : List Sl} {ss : List Sl} : setAll es [] ss = es := by cases ss <;> rfl
theorem setAll_0 {es : List Sl} : setAll es [] [] = es := rfl
theorem nodup_at {α : Type} {l : List α} (h : l.Nodup) {i j : Nat} {x : α} (hi : l[i]? = some x) (hj : l[j]? = some x) : i = j := by
  obtain ⟨l1, e1⟩ := List.getElem?_eq_some_iff.mp hi
  obtain ⟨l2, e2⟩ := List.getElem?_eq_some_iff.mp hj
  have p := List.pairwise_iff_getElem.mp h
  rcases Nat.lt_trichotomy i j with q | q | q
  · exact absurd (e1.trans e2.symm) (p i j l1 l2 q)
  · exact q
  · exact absurd (e2.trans e1.symm) (p j i l2 l1 q)
end DL
namespace DL
open PySem PySem.Spec PyProof.Rows L2
theorem sp_start {K : PySem.W.Frag} {φ : DF} {H : Hp} {a : Addr} {ns : List Int} {E : XK} (hS : SqL K H a (ns.map V.int)) (h : φ (fun _ => none) [.s ns] fun _ s => s = .d (.bool true)) : spD K φ [.ref a] H (fun v _ => v = .bl true) E := by
  refine ⟨H, fun _ => none, [.s ns], _, ?_, .cons ⟨a, rfl, hS⟩ .nil, h, ?_⟩
  · exact ⟨Same.refl H, (fun _ _ e => by cases e), fun _ _ e => by cases e⟩
  · rintro M' s F' H' v rfl _ _ r
    cases r
    rfl
end DL
set_option Elab.async false
set_option autoImplicit false
set_option linter.all false
set_option maxRecDepth 100000
set_option maxHeartbeats 2000000
namespace DL
open PySem PySem.Spec PyProof.Rows L2
/-! ### a dict that is walked stays as it is -/
section
variable {X : Cx} {e : Expr} {st : Stmt} {τ : DT} {ς : DS} {pos : Pos}
def dLockE (τ : DT) : DT := fun M es post => ∃ d, (∃ kvs, M d = some (.dK kvs) ∧ ∀ od kws, τ (mput M d (.lK od kws kvs)) es fun M' s => M' d = some (.lK od kws kvs) ∧ post (mput M' d (.dK kvs)) s) ∨
  ∃ kvs, M d = some (.dT kvs) ∧ ∀ od kws, τ (mput M d (.lT od kws kvs)) es fun M' s => M' d = some (.lT od kws kvs) ∧ post (mput M' d (.dT kvs)) s
theorem pd_lock (h : PD X e τ) : PD X e (dLockE τ) := peI (pe_lock h) fun σ H Q hq => by
  obtain ⟨F, M, es, post, hs, he, ⟨d, ht⟩, hf⟩ := hq
  rcases ht with ⟨kvs, hM, ht⟩ | ⟨kvs, hM, ht⟩
  · obtain ⟨kws, h1, h2⟩ := (show ∃ kws, H d = some (.dK kws) ∧ KS X.K F kws kvs from hs.ok _ _ hM)
    refine ⟨d, .dK kws, h1, trivial, fun od => ?_⟩
    refine ⟨F, _, es, _, hs.set (o := .lK od kws kvs) hM ⟨upd_same, h2⟩, he, ht od kws, fun M' s F' H' v p1 e1 hs1 r1 => ?_⟩
    obtain ⟨g1, g2⟩ := p1
    obtain ⟨g3, g4⟩ := (show H' d = some (.frz od (.dK kws)) ∧ KS X.K F' kws kvs from hs1.ok _ _ g1)
    exact ⟨g3, hf _ _ F' _ v g2 e1 (hs1.set (o := .dK kvs) g1 ⟨kws, upd_same, g4⟩) r1⟩
  · obtain ⟨kws, h1, h2⟩ := (show ∃ kws, H d = some (.dT kws) ∧ KS X.K F kws kvs from hs.ok _ _ hM)
    refine ⟨d, .dT kws, h1, trivial, fun od => ?_⟩
    refine ⟨F, _, es, _, hs.set (o := .lT od kws kvs) hM ⟨upd_same, h2⟩, he, ht od kws, fun M' s F' H' v p1 e1 hs1 r1 => ?_⟩
    obtain ⟨g1, g2⟩ := p1
    obtain ⟨g3, g4⟩ := (show H' d = some (.frz od (.dT kws)) ∧ KS X.K F' kws kvs from hs1.ok _ _ g1)
    exact ⟨g3, hf _ _ F' _ v g2 e1 (hs1.set (o := .dT kvs) g1 ⟨kws, upd_same, g4⟩) r1⟩
def keyD : Key → PyData
  | .inl i => .int i
  | .inr x => .str x
theorem key_dq {F : Hp} (k : Key) : Dq F (kV k) (keyD k) := by cases k with | inl i => exact .int i | inr x => exact .str x
theorem keys_dq {F : Hp} : ∀ ks : List Key, DqA F (ks.map kV) (ks.map keyD)
  | [] => .nil
  | k :: ks => .cons (key_dq k) (keys_dq ks)
theorem ks_get {κ : Type} [DecidableEq κ] {K : PySem.W.Frag} {F : Hp} {kws : List (κ × V)} {kvs : List (κ × Sl)} (h : KS K F kws kvs) {i : Nat} {k : κ} {v : V} (e : kws[i]? = some (k, v)) : ∃ s, kvs[i]? = some (k, s) ∧ SlR K F v s := by
  induction h generalizing i with
  | nil => simp at e
  | @cons p q ps qs h1 _ ih =>
    cases i with
    | zero =>
      simp at e
      subst e
      obtain ⟨q1, q2⟩ := q
      obtain ⟨h2, h3⟩ := h1
      have h2 : k = q1 := h2
      subst h2
      exact ⟨q2, rfl, h3⟩
    | succ i => exact ih (i := i) (by simpa using e)
/-- over a dict's keys (within a lock) -/
def dKeys (τ : DT) : DI := fun M es post => τ M es fun M1 s => ∃ d, s = .m d ∧ ((∃ od kws kvs, M1 d = some (.lK od kws kvs) ∧ post M1 ⟨kvs.length, fun i => .d ((kvs.map fun kv => keyD kv.1).getD i .none), fun M => M d = some (.lK od kws kvs)⟩) ∨
  ∃ od kws kvs, M1 d = some (.lT od kws kvs) ∧ post M1 ⟨kvs.length, fun i => .d ((kvs.map fun kv => PyData.tuple (kv.1.map keyD)).getD i .none), fun M => M d = some (.lT od kws kvs)⟩)
theorem pdi_keys {tg : Expr} (h : PD X e τ) : PDI X tg e (dKeys τ) := piI (pi_keys h) fun σ H R hq => by
  obtain ⟨F, M, es, post, hs, he, ht, hf⟩ := hq
  refine ⟨F, M, es, _, hs, he, ht, fun M1 s F1 H1 v p1 e1 hs1 r1 => ?_⟩
  obtain ⟨d, rfl, p1⟩ := p1
  rcases p1 with ⟨od, kws, kvs, hM, hp⟩ | ⟨od, kws, kvs, hM, hp⟩
  · obtain ⟨g3, g4⟩ := (show H1 d = some (.frz od (.dK kws)) ∧ KS X.K F1 kws kvs from hs1.ok _ _ hM)
    refine ⟨d, od, r1, .inl ⟨kws, g3, hf _ _ F1 H1 _ hp e1 hs1 ⟨fun i F' M' H' e hs' hg hi => ?_, fun F' M' H' e hs' hg => ?_, fun i F' M' H' x H'' e hs' hg hi hy => ?_⟩⟩⟩
    · obtain ⟨q1, q2⟩ := (show H' d = some (.frz od (.dK kws)) ∧ KS X.K F' kws kvs from hs'.ok _ _ hg)
      exact ⟨q1, by rw [Paired.len' q2]; exact hi⟩
    · obtain ⟨q1, q2⟩ := (show H' d = some (.frz od (.dK kws)) ∧ KS X.K F' kws kvs from hs'.ok _ _ hg)
      exact ⟨q1, Nat.le_of_eq (Paired.len' q2)⟩
    · obtain ⟨q1, q2⟩ := (show H' d = some (.frz od (.dK kws)) ∧ KS X.K F' kws kvs from hs'.ok _ _ hg)
      obtain ⟨rfl, k, v, hk, rfl⟩ := hy
      obtain ⟨s, h1, _⟩ := ks_get q2 hk
      refine ⟨F', Same.refl F', hs', ?_⟩
      have : (kvs.map fun kv => keyD kv.1).getD i .none = keyD k := by simp [List.getD_eq_getElem?_getD, h1]
      show Dq F' (kV k) ((kvs.map fun kv => keyD kv.1).getD i .none)
      rw [this]
      exact key_dq k
  · obtain ⟨g3, g4⟩ := (show H1 d = some (.frz od (.dT kws)) ∧ KS X.K F1 kws kvs from hs1.ok _ _ hM)
    refine ⟨d, od, r1, .inr ⟨kws, g3, hf _ _ F1 H1 _ hp e1 hs1 ⟨fun i F' M' H' e hs' hg hi => ?_, fun F' M' H' e hs' hg => ?_, fun i F' M' H' x H'' e hs' hg hi hy => ?_⟩⟩⟩
    · obtain ⟨q1, q2⟩ := (show H' d = some (.frz od (.dT kws)) ∧ KS X.K F' kws kvs from hs'.ok _ _ hg)
      exact ⟨q1, by rw [Paired.len' q2]; exact hi⟩
    · obtain ⟨q1, q2⟩ := (show H' d = some (.frz od (.dT kws)) ∧ KS X.K F' kws kvs from hs'.ok _ _ hg)
      exact ⟨q1, Nat.le_of_eq (Paired.len' q2)⟩
    · obtain ⟨q1, q2⟩ := (show H' d = some (.frz od (.dT kws)) ∧ KS X.K F' kws kvs from hs'.ok _ _ hg)
      obtain ⟨rfl, k, v, q, hk, rfl, hq⟩ := hy
      obtain ⟨s, h1, _⟩ := ks_get q2 hk
      obtain ⟨F'', z1, z2, z3⟩ := hs'.learn hq
      refine ⟨F'', z1, z2, ?_⟩
      have : (kvs.map fun kv => PyData.tuple (kv.1.map keyD)).getD i .none = .tuple (k.map keyD) := by simp [List.getD_eq_getElem?_getD, h1]
      show Dq F'' (.ref q) ((kvs.map fun kv => PyData.tuple (kv.1.map keyD)).getD i .none)
      rw [this]
      exact .tup z3 (keys_dq k)
end
end DL
set_option Elab.async false
set_option autoImplicit false
set_option linter.all false
set_option maxRecDepth 100000
set_option maxHeartbeats 2000000
namespace DL
open PySem PySem.Spec PyProof.Rows L2
/-! ### sorted of data -/
abbrev dLe : PyData → PyData → Bool := PySem.W.dataLe false id
def rSortDt (K : PySem.W.Frag) : List V → Hp → VK → Prop := fun vs H Q => ∃ (a : Addr) (us : List V) (ds : List PyData), vs = [.ref a] ∧ SqL K H a us ∧ DpAll K H us ds ∧ PySem.W.AllAlike ds ∧ PySem.W.Sortable ds ∧ PyData.depthAll ds ≤ 60 ∧
  ∀ p, H p = none → Q (.ref p) (upd H p (.lst (((us.zip ds).mergeSort (PySem.W.dataLe false (·.2))).map (·.1))))
theorem dpa_len {K : PySem.W.Frag} {H : Hp} : ∀ {us : List V} {ds : List PyData}, DpAll K H us ds → us.length = ds.length
  | _, _, .nil => rfl
  | _, _, .cons _ r => by simp [dpa_len r]
theorem zip_each {R : Value → V → Prop} : ∀ {us : List V} {vs : List Value} {ds : List PyData}, Vals us vs → us.length = ds.length → PySem.W.EachIs (fun (v : Value) (b : V × PyData) => RelV b.1 v) vs (us.zip ds)
  | _, _, [], .nil, _ => .nil
  | _, _, d :: ds, .cons r t, h => .cons r (zip_each (R := R) t (by simpa using h))
  | _, _, [], .cons _ _, h => by simp at h
  | _, _, _ :: _, .nil, h => by simp at h
theorem zip_reads {h : Heap} : ∀ {us : List V} {vs : List Value} {ds : List PyData} {as : List Addr}, us.length = ds.length → ReadsAll h vs ds as → PySem.W.EachIs (fun (v : Value) (b : V × PyData) => ∃ as, Reads h v b.2 as) vs (us.zip ds) := by
  intro us vs ds as hl hr
  have e : PySem.W.EachIs (fun (v : Value) (b : PyData) => ∃ as, Reads h v b as) vs ds := PySem.W.readsAll_each (enc := id) (bs := ds) (by rw [List.map_id]; exact hr)
  clear hr
  induction e generalizing us with
  | nil => cases us <;> exact .nil
  | cons h1 _ ih =>
    cases us with
    | nil => simp at hl
    | cons u us => exact .cons h1 (ih (by simpa using hl))
theorem depth_mem {d : PyData} : ∀ {ds : List PyData}, d ∈ ds → d.depth ≤ PyData.depthAll ds
  | x :: xs, h => by
    rw [PyData.depthAll]
    rcases List.mem_cons.mp h with rfl | h
    · exact Nat.le_max_left _ _
    · exact Nat.le_trans (depth_mem h) (Nat.le_max_right _ _)
theorem each_vals : ∀ {out : List Value} {bs : List (V × PyData)}, PySem.W.EachIs (fun (v : Value) (b : V × PyData) => RelV b.1 v) out bs → Vals (bs.map (·.1)) out
  | _, _, .nil => .nil
  | _, _, .cons h r => .cons h (each_vals r)
theorem cr_sortDt {X : Cx} (hc : X.calm = true) (hu : X.A.units + 64 < cLine) : CallR X (.builtin "sorted") (rSortDt X.K) := by
  intro pins s σ H vs ws Q I r h
  obtain ⟨a, us, ds, rfl, hq, hd, ha, hk, hdep, q⟩ := h
  obtain ⟨w, rfl, r1⟩ := Vals.one r
  cases (show w = Value.ref a from r1)
  obtain ⟨its, rv, p, hz⟩ := I.list hq
  obtain ⟨as, hr⟩ := Dp.readsAll I ds us its hd rv
  have hl := dpa_len hd
  have e2 : (us.zip ds).map (·.2) = ds := List.map_snd_zip (by omega)
  refine PySem.W.sorted_data (R := fun (v : Value) (b : V × PyData) => RelV b.1 v) (enc := fun b : V × PyData => b.2) (bs := us.zip ds) p.isList (zip_each (R := fun _ _ => True) rv hl) (zip_reads hl hr) (by rw [e2]; exact ha) (by rw [e2]; exact hk) (by rw [List.length_zip]; omega) (fun b hb => ?_) fun out h1 h2 => ?_
  · have := depth_mem (List.of_mem_zip hb).2
    show X.A.units + 2 + b.2.depth < cLine
    omega
  · obtain ⟨ep, he'⟩ := PyProof.Rows.sortedAll_at s.heap its out.toArray
    have hlen : (((us.zip ds).mergeSort (PySem.W.dataLe false (·.2))).map (·.1)).length ≤ sizeLine := by
      rw [List.length_map, List.length_mergeSort, List.length_zip]; omega
    exact ⟨.ref _, upd H (s.heap.objs.size + 1) (.lst _), I.laid (t' := s.toks) (fun _ _ => PyProof.Rows.sortedAll_old) (Nat.le_succ _) ⟨hlen, out, ep, each_vals h2, he'⟩, rfl, q _ (I.hok.fresh (Nat.le_succ _))⟩
theorem zip_dq {F : Hp} : ∀ {us : List V} {ds : List PyData}, DqA F us ds → ∀ b ∈ us.zip ds, Dq F b.1 b.2
  | _, _, .nil, b, h => by simp at h
  | _, _, .cons h r, b, hb => by
    rcases List.mem_cons.mp hb with rfl | hb
    · exact h
    · exact zip_dq r b hb
theorem dqa_of {F : Hp} : ∀ {bs : List (V × PyData)}, (∀ b ∈ bs, Dq F b.1 b.2) → DqA F (bs.map (·.1)) (bs.map (·.2))
  | [], _ => .nil
  | b :: bs, h => .cons (h b (List.mem_cons_self ..)) (dqa_of fun c hc => h c (List.mem_cons_of_mem _ hc))
def ρSort : DB := fun ss M post => ∃ (s : Sl) (ds : List PyData), ss = [s] ∧ LstOf M s ds ∧ PySem.W.AllAlike ds ∧ PySem.W.Sortable ds ∧ PyData.depthAll ds ≤ 60 ∧ post M (.d (.list (ds.mergeSort dLe)))
theorem snd_sort {K : PySem.W.Frag} : SndC K (rSortDt K) ρSort := by
  intro F M H vs ss post Q hs r0 h hf
  obtain ⟨s, ds, rfl, h1, h2, h3, h4, hp⟩ := h
  obtain ⟨v, rfl, r⟩ := sls1 r0
  obtain ⟨a, us, rfl, h5, h6⟩ := h1.at hs r
  refine ⟨a, us, ds, rfl, SqL.of h5, DqA.dp hs.ex _ _ h6, h2, h3, h4, fun p np => ?_⟩
  have e : ((us.zip ds).mergeSort (PySem.W.dataLe false (·.2))).map (·.2) = ds.mergeSort dLe := by
    have e1 := List.map_mergeSort (f := fun b : V × PyData => b.2) (r := PySem.W.dataLe false fun b : V × PyData => b.2) (s := dLe) (l := us.zip ds) (fun a _ b _ => rfl)
    exact e1.trans (by rw [List.map_snd_zip (by rw [h6.length]; exact Nat.le_refl _)])
  refine hf.newL hs ?_ hp p np
  rw [← e]
  exact dqa_of fun b hb => zip_dq h6 b ((List.mergeSort_perm _ _).mem_iff.mp hb)
theorem pd_sort {X : Cx} {pos p : Pos} {e : Expr} {α : DA} (hc : X.calm = true) (hu : X.A.units + 64 < cLine) (hg : Gl X "sorted") (hm : X.mg "sorted" = none) (ha : PDA X [e] α) (he : starEach [e] X.env = (false, eval e X.env) :: starEach [] X.env := by rfl) : PD X (.Call (.Name "sorted" p) [e] [] pos) (dCB ρSort α) := pd_callB (cr_sortDt hc hu) snd_sort hg hm (by decide +kernel) ha (he := he)
/-! ### list(d.values()) -/
theorem kdl_valuesR {prog : Program} {w : World} {r d : Addr} {es : Array DictEntry} {ep : Nat} : PySem.W.KdlSrc prog w "dict_values" r d es.size (fun i v => ∃ hi : i < es.size, v = es[i].val) (fun h => h.IsValuesView r d ∧ Heap.DictRaw h d es ep) where
  type := fun _ hm => hm.1.typeIs
  there := fun _ hm => ⟨let ⟨_, ho, _⟩ := hm.1; Heap.lt_size ho, let ⟨_, ho, _⟩ := hm.2; Heap.lt_size ho⟩
  keep := fun _ _ hm hk => ⟨let ⟨o, ho, x⟩ := hm.1; ⟨o, hk r (.inl rfl) o ho, x⟩, hm.2.at fun o e => hk d (.inr rfl) o e⟩
  notList := by decide
  notTuple := by decide
  hint := fun _ _ _ _ hm hq => PySem.W.kdl_hint_values hm.1.typeIs hq
  iter := fun _ _ hh hm => ⟨_, _, (fun _ _ hq => wpAny_pyIter_values_raw hm.1 hm.2 hq), Walks.rawValues hh _ d (let ⟨_, ho, _⟩ := hm.2; Nat.ne_of_lt (Heap.lt_size ho)) es ep, ⟨⟨_, Heap.get?_push_size _ rfl, rfl, rfl⟩, hm.2.at fun _ e => Heap.get?_push_of_some _ e⟩⟩
def tListVals (te : TE) : TE := fun σ H Q => te σ H fun x H1 => ∃ d ws, x = .ref d ∧ ((∃ kvs : List (Key × V), Rd H1 d (.dK kvs) ∧ ws = kvs.map (·.2)) ∨ ∃ kvs : List (List Key × V), Rd H1 d (.dT kvs) ∧ ws = kvs.map (·.2)) ∧ ∀ p, H1 p = none → Q (.ref p) (upd H1 p (.lst ws))
section
variable {X : Cx} {e : Expr} {te : TE} {τ : DT} {p apos cpos pos : Pos}
/-- a dict's entries as they stand -/
theorem raw_of {P : Program} {w : World} {H : Hp} {h : Heap} {d : Addr} {ws : List V} (ok : HOk P w H h) (hr : (∃ kvs : List (Key × V), Rd H d (.dK kvs) ∧ ws = kvs.map (·.2)) ∨ ∃ kvs : List (List Key × V), Rd H d (.dT kvs) ∧ ws = kvs.map (·.2)) :
    (d == sysModules) = false ∧ ∃ es ep, Heap.DictRaw h d es ep ∧ es.size = ws.length ∧ ws.length ≤ sizeLine ∧ ∀ i (hi : i < es.size), ∃ x, ws[i]? = some x ∧ RelV x es[i].val := by
  rcases hr with ⟨kvs, hk, rfl⟩ | ⟨kvs, hk, rfl⟩
  · obtain ⟨z, y, vs, kv, dd⟩ := dk_rd ok hk
    obtain ⟨es, ep, r, hs, hi⟩ := dd.raw
    have l1 : kvs.length = vs.length := Paired.length kv
    refine ⟨y, es, ep, r, by rw [List.length_map]; omega, by rw [List.length_map]; exact z, fun i hlt => ?_⟩
    obtain ⟨⟨k, v⟩, hv⟩ : ∃ q, vs[i]? = some q := ⟨vs[i]'(by omega), by simp⟩
    obtain ⟨x, h1, h2⟩ := KV.at' kv hv
    refine ⟨x, by rw [List.getElem?_map, h1]; rfl, ?_⟩
    rw [(hi i hlt k v hv).2]; exact h2
  · obtain ⟨z, y, xs, kt, dd⟩ := dt_rd ok hk
    obtain ⟨es, ep, r, hs, hi⟩ := dd.raw
    have l1 : kvs.length = xs.length := Paired.length kt
    refine ⟨y, es, ep, r, by rw [List.length_map]; omega, by rw [List.length_map]; exact z, fun i hlt => ?_⟩
    obtain ⟨q, h1, h2, h3, h4⟩ := hi i hlt
    obtain ⟨x, g1, g2⟩ := Paired.get' kt h1
    refine ⟨x.2, by rw [List.getElem?_map, g1]; rfl, ?_⟩
    rw [h3]; exact g2.2.2
theorem vals_at : ∀ {ws : List V} {vs : List Value}, vs.length = ws.length → (∀ (i : Nat) v, vs[i]? = some v → ∃ x, ws[i]? = some x ∧ RelV x v) → Vals ws vs
  | [], [], _, _ => .nil
  | w :: ws, v :: vs, hl, h => by
    obtain ⟨x, h1, h2⟩ := h 0 v rfl
    simp at h1
    subst h1
    exact .cons h2 (vals_at (by simpa using hl) fun i u hu => by simpa using h (i + 1) u (by simpa using hu))
  | [], _ :: _, hl, _ => by simp at hl
  | _ :: _, [], hl, _ => by simp at hl
theorem pe_listVals (hc : X.calm = true) (he : PE X e te) (hg : Gl X "list") (hm : X.mg "list" = none) (hv : bootBuiltins "list" = some (.type "list")) (hbase : attributeBase e "values" X.env (eval e X.env) = eval e X.env := by rfl) (hline : (apos.endLine == cpos.line) = true := by rfl)
    (hs : starEach [.Call (.Attribute e "values" apos) [] [] cpos] X.env = (false, eval (.Call (.Attribute e "values" apos) [] [] cpos) X.env) :: starEach [] X.env := by rfl) :
    PE X (.Call (.Name "list" p) [.Call (.Attribute e "values" apos) [] [] cpos] [] pos) (tListVals te) := by
  refine ⟨fun pins s σ H Q I hq => ?_⟩
  refine wpAny_Call_Name_kw (ld_blt I hg hm hv ?_)
  refine PyProof.Rows.callWith_type1 ?_ hs rfl
  rw [hs]
  show wpAny _ _ (spliced ((false, eval (.Call (.Attribute e "values" apos) [] [] cpos) X.env) :: backTo pos (starEach [] X.env))) _ _ s
  refine Calls.spliced_cons ?_
  refine wpAny_Call_method (T := "dict") (id := "dict.values") hbase rfl hline F.plainAttrs_dict F.slot_dict_values F.type_dict_values (thn (he.run pins s σ H _ I hq) fun u s1 ⟨x, H1, I1, rx, d, ws, ex, hd, q⟩ => ?_)
  subst ex
  obtain rfl : u = Value.ref d := rx
  obtain ⟨hs0, es, ep, raw, hz, hsz, hit⟩ := raw_of I1.hok hd
  have I2 : Inv X pins σ H1 { s1 with heap := s1.heap.push { cls := .type "dict_values", data := .fields #[.ref d] } } := I1.kept (t' := s1.toks) fun b ob q => Heap.get?_push_of_some _ q
  obtain ⟨ob, ho, hx, hdt⟩ := id raw
  refine ⟨⟨ob, ho, hx.1⟩, ?_, ?_⟩
  · intro b e2
    cases e2
    exact ⟨ob, ho, hx.2.1⟩
  show wpAny _ _ (callWith cpos (.builtin "dict.values") [.ref d] [] []) _ X.xe s1
  refine method_meetsIn F.slot_dict_values F.entry_dict_values rfl (PySem.evalArgs_none ⟨rfl, ⟨ob, ho, hx.1⟩, F.args_dict_values_1 _, _, meets_dict_values_raw d hs0, ⟨es, ep, raw⟩, ?_⟩)
  refine Calls.spliced_nil ?_
  refine PySem.W.kdl_call (kdl_valuesR (r := s1.heap.objs.size) (d := d) (es := es) (ep := ep)) (I1.ok.hd hc) ⟨⟨_, Heap.get?_push_size _ rfl, rfl, rfl⟩, raw.at fun _ e => Heap.get?_push_of_some _ e⟩ (by omega) fun h' tk acc c hk hS hacc => ?_
  have rv : Vals ws acc.toList := vals_at (by rw [Array.length_toList, hacc.1]; exact hz) fun i v hv => by
    obtain ⟨hi, rfl⟩ := hacc.2 i v (by rw [← Array.getElem?_toList]; exact hv)
    exact hit i hi
  exact ⟨.ref _, _, I2.laid (t' := tk) (o := .lst ws) hk (Nat.le_refl _) ⟨hsz, acc.toList, c, rv, by rw [Array.toArray_toList]; exact hS⟩, rfl, q _ (I2.hok.fresh (Nat.le_refl _))⟩
/-- list(d.values()), the values data -/
def dListVals (τ : DT) : DT := fun M es post => τ M es fun M1 s => ∃ d, s = .m d ∧ ((∃ (kvs : List (Key × Sl)) (ds : List PyData), M1 d = some (.dK kvs) ∧ kvs.map (·.2) = ds.map Sl.d ∧ post M1 (.d (.list ds))) ∨ ∃ (kvs : List (List Key × Sl)) (ds : List PyData), M1 d = some (.dT kvs) ∧ kvs.map (·.2) = ds.map Sl.d ∧ post M1 (.d (.list ds)))
theorem ks_sls {κ : Type} [DecidableEq κ] {K : PySem.W.Frag} {F : Hp} {kws : List (κ × V)} {kvs : List (κ × Sl)} (h : KS K F kws kvs) : SlsR K F (kws.map (·.2)) (kvs.map (·.2)) := by
  induction h with
  | nil => exact .nil
  | cons h _ ih => exact .cons h.2 ih
theorem pd_listVals (hc : X.calm = true) (he : PD X e τ) (hg : Gl X "list") (hm : X.mg "list" = none) (hbase : attributeBase e "values" X.env (eval e X.env) = eval e X.env := by rfl) (hline : (apos.endLine == cpos.line) = true := by rfl)
    (hs : starEach [.Call (.Attribute e "values" apos) [] [] cpos] X.env = (false, eval (.Call (.Attribute e "values" apos) [] [] cpos) X.env) :: starEach [] X.env := by rfl) :
    PD X (.Call (.Name "list" p) [.Call (.Attribute e "values" apos) [] [] cpos] [] pos) (dListVals τ) := peI (pe_listVals hc he hg hm (by decide +kernel) hbase hline hs) fun σ H Q hq => by
  obtain ⟨F, M, es, post, hs, he, ht, hf⟩ := hq
  refine ⟨F, M, es, _, hs, he, ht, fun M1 s F1 H1 v p1 e1 hs1 r1 => ?_⟩
  obtain ⟨d, rfl, p1⟩ := p1
  rcases p1 with ⟨kvs, ds, hM, hk, hp⟩ | ⟨kvs, ds, hM, hk, hp⟩
  · obtain ⟨kws, h1, h2⟩ := (show ∃ kws, H1 d = some (.dK kws) ∧ KS X.K F1 kws kvs from hs1.ok _ _ hM)
    have h3 := ks_sls h2
    rw [hk] at h3
    exact ⟨d, _, r1, .inl ⟨kws, .inl h1, rfl⟩, (hf.mono e1).newL hs1 (sls_data h3) hp⟩
  · obtain ⟨kws, h1, h2⟩ := (show ∃ kws, H1 d = some (.dT kws) ∧ KS X.K F1 kws kvs from hs1.ok _ _ hM)
    have h3 := ks_sls h2
    rw [hk] at h3
    exact ⟨d, _, r1, .inr ⟨kws, .inl h1, rfl⟩, (hf.mono e1).newL hs1 (sls_data h3) hp⟩
end
end DL
set_option Elab.async false
set_option autoImplicit false
set_option linter.all false
set_option maxRecDepth 100000
set_option maxHeartbeats 2000000
namespace DL
open PySem PySem.Spec PyProof.Rows L2
def lkD (D : DE) (d : Addr) (o o' : MO) : DE := { nx := fun M es => M d = some o ∧ D.nx (mput M d o') es, rt := fun M s => M d = some o ∧ D.rt (mput M d o') s, bk := fun M es => M d = some o ∧ D.bk (mput M d o') es, ct := fun M es => M d = some o ∧ D.ct (mput M d o') es }
def dLockS (ς : DS) : DS := fun D M es => ∃ d, (∃ kvs, M d = some (.dK kvs) ∧ ∀ od kws, ς (lkD D d (.lK od kws kvs) (.dK kvs)) (mput M d (.lK od kws kvs)) es) ∨
  ∃ kvs, M d = some (.dT kvs) ∧ ∀ od kws, ς (lkD D d (.lT od kws kvs) (.dT kvs)) (mput M d (.lT od kws kvs)) es
theorem pds_lock {X : Cx} {st : Stmt} {ς : DS} (h : PDS X st ς) : PDS X st (dLockS ς) := psI (ps_lock h) fun D σ H hq => by
  obtain ⟨F, M, es, D', hs, he, ⟨d, ht⟩, hf⟩ := hq
  rcases ht with ⟨kvs, hM, ht⟩ | ⟨kvs, hM, ht⟩
  · obtain ⟨kws, h1, h2⟩ := (show ∃ kws, H d = some (.dK kws) ∧ KS X.K F kws kvs from hs.ok _ _ hM)
    refine ⟨d, .dK kws, h1, trivial, fun od => ?_⟩
    have un : ∀ {M' : MHp} {F' H' : Hp}, M' d = some (.lK od kws kvs) → Hs X.K F' M' H' → H' d = some (.frz od (.dK kws)) ∧ Hs X.K F' (mput M' d (.dK kvs)) (upd H' d (.dK kws)) := fun {M' F' H'} g1 hs1 => by
      obtain ⟨g3, g4⟩ := (show H' d = some (.frz od (.dK kws)) ∧ KS X.K F' kws kvs from hs1.ok _ _ g1)
      exact ⟨g3, hs1.set (o := .dK kvs) g1 ⟨kws, upd_same, g4⟩⟩
    refine ⟨F, _, es, _, hs.set (o := .lK od kws kvs) hM ⟨upd_same, h2⟩, he, ht od kws, ⟨?_, ?_, ?_, ?_⟩⟩
    · rintro M' es' F' σ' H' ⟨g1, g2⟩ e1 hs1 he1
      obtain ⟨q1, q2⟩ := un g1 hs1
      exact ⟨q1, hf.nx _ _ F' _ _ g2 e1 q2 he1⟩
    · rintro M' s F' H' v ⟨g1, g2⟩ e1 hs1 r1
      obtain ⟨q1, q2⟩ := un g1 hs1
      exact ⟨q1, hf.rt _ _ F' _ v g2 e1 q2 r1⟩
    · rintro M' es' F' σ' H' ⟨g1, g2⟩ e1 hs1 he1
      obtain ⟨q1, q2⟩ := un g1 hs1
      exact ⟨q1, hf.bk _ _ F' _ _ g2 e1 q2 he1⟩
    · rintro M' es' F' σ' H' ⟨g1, g2⟩ e1 hs1 he1
      obtain ⟨q1, q2⟩ := un g1 hs1
      exact ⟨q1, hf.ct _ _ F' _ _ g2 e1 q2 he1⟩
  · obtain ⟨kws, h1, h2⟩ := (show ∃ kws, H d = some (.dT kws) ∧ KS X.K F kws kvs from hs.ok _ _ hM)
    refine ⟨d, .dT kws, h1, trivial, fun od => ?_⟩
    have un : ∀ {M' : MHp} {F' H' : Hp}, M' d = some (.lT od kws kvs) → Hs X.K F' M' H' → H' d = some (.frz od (.dT kws)) ∧ Hs X.K F' (mput M' d (.dT kvs)) (upd H' d (.dT kws)) := fun {M' F' H'} g1 hs1 => by
      obtain ⟨g3, g4⟩ := (show H' d = some (.frz od (.dT kws)) ∧ KS X.K F' kws kvs from hs1.ok _ _ g1)
      exact ⟨g3, hs1.set (o := .dT kvs) g1 ⟨kws, upd_same, g4⟩⟩
    refine ⟨F, _, es, _, hs.set (o := .lT od kws kvs) hM ⟨upd_same, h2⟩, he, ht od kws, ⟨?_, ?_, ?_, ?_⟩⟩
    · rintro M' es' F' σ' H' ⟨g1, g2⟩ e1 hs1 he1
      obtain ⟨q1, q2⟩ := un g1 hs1
      exact ⟨q1, hf.nx _ _ F' _ _ g2 e1 q2 he1⟩
    · rintro M' s F' H' v ⟨g1, g2⟩ e1 hs1 r1
      obtain ⟨q1, q2⟩ := un g1 hs1
      exact ⟨q1, hf.rt _ _ F' _ v g2 e1 q2 r1⟩
    · rintro M' es' F' σ' H' ⟨g1, g2⟩ e1 hs1 he1
      obtain ⟨q1, q2⟩ := un g1 hs1
      exact ⟨q1, hf.bk _ _ F' _ _ g2 e1 q2 he1⟩
    · rintro M' es' F' σ' H' ⟨g1, g2⟩ e1 hs1 he1
      obtain ⟨q1, q2⟩ := un g1 hs1
      exact ⟨q1, hf.ct _ _ F' _ _ g2 e1 q2 he1⟩
end DL
set_option Elab.async false
set_option autoImplicit false
set_option linter.all false
set_option maxRecDepth 100000
set_option maxHeartbeats 2000000
namespace DL
open PySem PySem.Spec PyProof.Rows L2
/-! ### constants of the module -/
structure GlD (K : PySem.W.Frag) (mg : Str → Option Value) (x : Str) (d : PyData) : Prop where
  ex : ∃ u v, mg x = some u ∧ RelV v u ∧ Cq K v d
def scal : PyData → Bool
  | .none => true
  | .bool _ => true
  | .int _ => true
  | .str _ => true
  | _ => false
/-- a value of the top is this scalar -/
def valIs : Value → PyData → Bool
  | .none, .none => true
  | .bool a, .bool b => a == b
  | .int i _, .int j => i == j
  | .str x _, .str y => x == y
  | _, _ => false
def valsAre : List Value → List PyData → Bool
  | [], [] => true
  | u :: us, d :: ds => valIs u d && valsAre us ds
  | _, _ => false
theorem valIs.rel {u : Value} {d : PyData} (h : valIs u d = true) : ∃ v, RelV v u ∧ ∀ K, Cq K v d := by
  unfold valIs at h
  split at h
  · exact ⟨.non, rfl, fun _ => .non⟩
  · have := eq_of_beq h; subst this; exact ⟨.bl _, rfl, fun _ => .bl _⟩
  · have := eq_of_beq h; subst this; exact ⟨.int _, ⟨_, rfl⟩, fun _ => .int _⟩
  · have := eq_of_beq h; subst this; exact ⟨.str _, ⟨_, rfl⟩, fun _ => .str _⟩
  · cases h
theorem valsAre.rel {K : PySem.W.Frag} : ∀ {us : List Value} {ds : List PyData}, valsAre us ds = true → ∃ vs, Vals vs us ∧ CqA K vs ds
  | [], [], _ => ⟨[], .nil, .nil⟩
  | u :: us, d :: ds, h => by
    rw [valsAre, Bool.and_eq_true] at h
    obtain ⟨v, r, c⟩ := valIs.rel h.1
    obtain ⟨vs, rs, cs⟩ := valsAre.rel (K := K) h.2
    exact ⟨v :: vs, .cons r rs, .cons (c K) cs⟩
  | [], _ :: _, h => by cases h
  | _ :: _, [], h => by cases h
theorem gl_scal {K : PySem.W.Frag} {mg : Str → Option Value} {x : Str} {d : PyData} {u : Value} (hm : mg x = some u) (h : valIs u d = true) : GlD K mg x d := by
  obtain ⟨v, r, c⟩ := valIs.rel h
  exact ⟨u, v, hm, r, c K⟩
theorem gl_tup {K : PySem.W.Frag} {mg : Str → Option Value} {x : Str} {ds : List PyData} {a : Addr} {od : Option Addr} {its : Array Value} {n : Nat} {sl : Array (Option Value)} (hm : mg x = some (.ref a)) (hk : K.lookup a = some ⟨.type "tuple", od, .seq its n, sl⟩) (hz : its.size ≤ 1000) (h : valsAre its.toList ds = true) : GlD K mg x (.tuple ds) := by
  obtain ⟨vs, r, c⟩ := valsAre.rel (K := K) h
  exact ⟨_, .ref a, hm, rfl, .tup hk rfl rfl (by rw [sizeLine_eq]; omega) r c⟩
theorem Cq.scal {K : PySem.W.Frag} {v : V} {d : PyData} (h : Cq K v d) (hs : scal d = true) {F : Hp} : Dq F v d := by
  cases h with
  | non => exact .non
  | bl b => exact .bl b
  | int i => exact .int i
  | str x => exact .str x
  | tup _ _ _ _ _ _ => cases hs
def dCc (x : PyData) : DT := fun M _ post => post M (.c x)
section
variable {X : Cx} {e a b c o i v : Expr} {τ τa τb τc τo τi τv : DT} {θ : DTT} {pos p apos : Pos}
theorem pd_glS {x : Str} {d : PyData} (g : GlD X.K X.mg x d) (hg : Gl X x) (hs : scal d = true := by rfl) (hd : (x == ("__debug__" : Str)) = false := by decide) : PD X (.Name x pos) (dC d) := by
  obtain ⟨u, v, hm, r, c⟩ := g.ex
  exact pd_const (pe_glob hg hm r hd) (c.scal hs)
theorem pd_glT {x : Str} {d : PyData} (g : GlD X.K X.mg x d) (hg : Gl X x) (hd : (x == ("__debug__" : Str)) = false := by decide) : PD X (.Name x pos) (dCc d) := by
  obtain ⟨u, v, hm, r, c⟩ := g.ex
  exact peI (pe_glob hg hm r hd) fun σ H Q hq => by
    obtain ⟨F, M, es, post, hs, he, ht, hf⟩ := hq
    exact hf _ _ F H v ht (Same.refl F) hs c
/-! ### is None, is True -/
def isNon : Sl → Option Bool
  | .n => none
  | .d .none => some true
  | .c .none => some true
  | _ => some false
theorem isNon.at {K : PySem.W.Frag} {F : Hp} {v : V} {s : Sl} {k : Bool} (h : isNon s = some k) (r : SlR K F v s) : decide (v = .non) = k := by
  cases s with
  | n => cases h
  | d x => cases r <;> first | (cases h; rfl) | (simp [isNon] at h; subst h; rfl)
  | c x => cases r <;> first | (cases h; rfl) | (simp [isNon] at h; subst h; rfl)
  | m a => cases h; have r : v = .ref a := r; subst r; rfl
  | s ns => cases h; obtain ⟨a, rfl, _⟩ := r; rfl
  | t ss => cases h; obtain ⟨a, _, rfl, _⟩ := r; rfl
  | o C fs => cases h; obtain ⟨a, _, _, rfl, _⟩ := r; rfl
  | f kvs => cases h; obtain ⟨a, _, rfl, _⟩ := r; rfl
def ρIsN (neg : Bool) : DR2 := fun s1 s2 M post => ∃ k, isNon s1 = some k ∧ s2 = .d .none ∧ post M (.d (.bool (if neg then !k else k)))
theorem snd_isN {K : PySem.W.Frag} : Snd K (fun x y H Q => y = .non ∧ Q (.bl (decide (x = .non))) H) (ρIsN false) := by
  intro F M H v1 v2 s1 s2 post Q hs r1 r2 h hf
  obtain ⟨k, h1, rfl, hp⟩ := h
  exact ⟨dq_non r2, by rw [isNon.at h1 r1]; exact hf.dat hs (.bl _) hp⟩
theorem snd_notN {K : PySem.W.Frag} : Snd K (fun x y H Q => y = .non ∧ Q (.bl (!decide (x = .non))) H) (ρIsN true) := by
  intro F M H v1 v2 s1 s2 post Q hs r1 r2 h hf
  obtain ⟨k, h1, rfl, hp⟩ := h
  exact ⟨dq_non r2, by rw [isNon.at h1 r1]; exact hf.dat hs (.bl _) hp⟩
theorem pd_isN (ha : PD X a τa) (hb : PD X b τb) : PD X (.Compare a [.Is] [b] pos) (dOp (ρIsN false) τa τb) := pd_cmp op_isN snd_isN ha hb (nomark _)
theorem pd_notN (ha : PD X a τa) (hb : PD X b τb) : PD X (.Compare a [.IsNot] [b] pos) (dOp (ρIsN true) τa τb) := pd_cmp op_notN snd_notN ha hb (nomark _)
theorem pdt_isN (ha : PD X a τa) (hb : PD X b τb) : PDT X (.Compare a [.Is] [b] pos) (dB (dOp (ρIsN false) τa τb)) := pdt_cmp op_isN snd_isN ha hb (nomark _)
theorem pdt_notN (ha : PD X a τa) (hb : PD X b τb) : PDT X (.Compare a [.IsNot] [b] pos) (dB (dOp (ρIsN true) τa τb)) := pdt_cmp op_notN snd_notN ha hb (nomark _)
/-- is, is not of a flat value and a truth -/
def rIsF (neg : Bool) : R2 := fun x y H Q => ∃ b : Bool, flatV x = true ∧ y = .bl b ∧ Q (.bl (if neg then !decide (x = .bl b) else decide (x = .bl b))) H
theorem op_isF : OpR X (compareOp .Is) (rIsF false) := by
  intro pins s σ H x y v u Q I rx ry h
  obtain ⟨b, hx, rfl, q⟩ := h
  cases (show u = Value.bool b from ry)
  by_cases e : x = .bl b
  · subst e
    cases (show v = Value.bool b from rx)
    exact wpAny_is_self rfl ⟨.bl true, H, I, rfl, by simpa using q⟩
  · have q' : Q (.bl false) H := by simpa [e] using q
    cases x with
    | bl a => cases (show v = Value.bool a from rx); exact wpAny_is_other rfl (fun z => e (by cases z; rfl)) ⟨.bl false, H, I, rfl, q'⟩
    | non => cases (show v = Value.none from rx); exact wpAny_is_other rfl (fun z => by cases z) ⟨.bl false, H, I, rfl, q'⟩
    | int i => obtain ⟨t, rfl⟩ := rx; exact wpAny_is_other rfl (fun z => by cases z) ⟨.bl false, H, I, rfl, q'⟩
    | str i => obtain ⟨t, rfl⟩ := rx; exact wpAny_is_other rfl (fun z => by cases z) ⟨.bl false, H, I, rfl, q'⟩
    | _ => cases hx
theorem op_isNotF : OpR X (compareOp .IsNot) (rIsF true) := by
  intro pins s σ H x y v u Q I rx ry h
  obtain ⟨b, hx, rfl, q⟩ := h
  cases (show u = Value.bool b from ry)
  by_cases e : x = .bl b
  · subst e
    cases (show v = Value.bool b from rx)
    exact wpAny_isNot_self rfl ⟨.bl false, H, I, rfl, by simpa using q⟩
  · have q' : Q (.bl true) H := by simpa [e] using q
    cases x with
    | bl a => cases (show v = Value.bool a from rx); exact wpAny_isNot_other rfl (fun z => e (by cases z; rfl)) ⟨.bl true, H, I, rfl, q'⟩
    | non => cases (show v = Value.none from rx); exact wpAny_isNot_other rfl (fun z => by cases z) ⟨.bl true, H, I, rfl, q'⟩
    | int i => obtain ⟨t, rfl⟩ := rx; exact wpAny_isNot_other rfl (fun z => by cases z) ⟨.bl true, H, I, rfl, q'⟩
    | str i => obtain ⟨t, rfl⟩ := rx; exact wpAny_isNot_other rfl (fun z => by cases z) ⟨.bl true, H, I, rfl, q'⟩
    | _ => cases hx
def isB (x : PyData) (b : Bool) : Bool := match x with
  | .bool a => decide (a = b)
  | _ => false
def ρIsB (neg : Bool) : DR2 := fun s1 s2 M post => match s1, s2 with
  | .d x, .d (.bool b) => scal x = true ∧ post M (.d (.bool (if neg then !isB x b else isB x b)))
  | _, _ => False
theorem isB.at {F : Hp} {v : V} {x : PyData} {b : Bool} (r : Dq F v x) (h : scal x = true) : flatV v = true ∧ decide (v = .bl b) = isB x b := by
  cases r with
  | non => exact ⟨rfl, rfl⟩
  | bl a => exact ⟨rfl, by simp [isB]⟩
  | int _ => exact ⟨rfl, rfl⟩
  | str _ => exact ⟨rfl, rfl⟩
  | lst _ _ => cases h
  | tup _ _ => cases h
theorem snd_isB {K : PySem.W.Frag} {neg : Bool} : Snd K (rIsF neg) (ρIsB neg) := by
  intro F M H v1 v2 s1 s2 post Q hs r1 r2 h hf
  unfold ρIsB at h
  split at h
  · obtain ⟨h1, hp⟩ := h
    rename_i x b
    obtain ⟨q1, q2⟩ := isB.at (b := b) r1 h1
    exact ⟨b, q1, dq_bl r2, by rw [q2]; exact hf.dat hs (.bl _) hp⟩
  · exact h.elim
theorem pd_isB (ha : PD X a τa) (hb : PD X b τb) : PD X (.Compare a [.Is] [b] pos) (dOp (ρIsB false) τa τb) := pd_cmp op_isF snd_isB ha hb (nomark _)
theorem pd_isNotB (ha : PD X a τa) (hb : PD X b τb) : PD X (.Compare a [.IsNot] [b] pos) (dOp (ρIsB true) τa τb) := pd_cmp op_isNotF snd_isB ha hb (nomark _)
theorem pdt_isB (ha : PD X a τa) (hb : PD X b τb) : PDT X (.Compare a [.Is] [b] pos) (dB (dOp (ρIsB false) τa τb)) := pdt_cmp op_isF snd_isB ha hb (nomark _)
theorem pdt_isNotB (ha : PD X a τa) (hb : PD X b τb) : PDT X (.Compare a [.IsNot] [b] pos) (dB (dOp (ρIsB true) τa τb)) := pdt_cmp op_isNotF snd_isB ha hb (nomark _)
/-! ### in, not in -/
/-- one sign in a text -/
def ρInS (neg : Bool) : DR2 := fun s1 s2 M post => match s1, s2 with
  | .d (.str x), .d (.str z) => ∃ c, x = ⟨#[c]⟩ ∧ post M (.d (.bool (if neg then !decide (c ∈ z.cps.toList) else decide (c ∈ z.cps.toList))))
  | _, _ => False
def rInS (neg : Bool) : R2 := fun x y H Q => ∃ (c : Nat) (z : Str), x = .str ⟨#[c]⟩ ∧ y = .str z ∧ Q (.bl (if neg then !decide (c ∈ z.cps.toList) else decide (c ∈ z.cps.toList))) H
theorem snd_inS {K : PySem.W.Frag} {neg : Bool} : Snd K (rInS neg) (ρInS neg) := by
  intro F M H v1 v2 s1 s2 post Q hs r1 r2 h hf
  unfold ρInS at h
  split at h
  · obtain ⟨c, rfl, hp⟩ := h
    exact ⟨c, _, dq_str r1, dq_str r2, hf.dat hs (.bl _) hp⟩
  · exact h.elim
theorem op_inS : OpR X (compareOp .In) (rInS false) := op_in_sign
theorem op_notInS : OpR X (compareOp .NotIn) (rInS true) := op_notIn_sign
theorem pd_inS (ha : PD X a τa) (hb : PD X b τb) (hm : behindInMarks .In b = false := by rfl) : PD X (.Compare a [.In] [b] pos) (dOp (ρInS false) τa τb) := pd_cmp op_inS snd_inS ha hb hm
theorem pd_notInS (ha : PD X a τa) (hb : PD X b τb) (hm : behindInMarks .NotIn b = false := by rfl) : PD X (.Compare a [.NotIn] [b] pos) (dOp (ρInS true) τa τb) := pd_cmp op_notInS snd_inS ha hb hm
theorem pdt_inS (ha : PD X a τa) (hb : PD X b τb) (hm : behindInMarks .In b = false := by rfl) : PDT X (.Compare a [.In] [b] pos) (dB (dOp (ρInS false) τa τb)) := pdt_cmp op_inS snd_inS ha hb hm
theorem pdt_notInS (ha : PD X a τa) (hb : PD X b τb) (hm : behindInMarks .NotIn b = false := by rfl) : PDT X (.Compare a [.NotIn] [b] pos) (dB (dOp (ρInS true) τa τb)) := pdt_cmp op_notInS snd_inS ha hb hm
/-- of flat things in a list or a tuple -/
def flat (s : Sl) : Option PyData := match s with
  | .d .none => some .none
  | .d (.bool b) => some (.bool b)
  | .d (.int i) => some (.int i)
  | .d (.str x) => some (.str x)
  | _ => none
def SeqF (M : MHp) (s : Sl) (ds : List PyData) : Prop := match s with
  | .d (.list es) => es = ds
  | .d (.tuple es) => es = ds
  | .c (.tuple es) => es = ds
  | .m a => M a = some (.lst (ds.map Sl.d))
  | _ => False
def inF (x : PyData) (ds : List PyData) : Bool := ds.any fun y => PyData.eqv y x
def ρInF (neg : Bool) : DR2 := fun s1 s2 M post => ∃ x ds, flat s1 = some x ∧ SeqF M s2 ds ∧ ds.all scal = true ∧ post M (.d (.bool (if neg then !inF x ds else inF x ds)))
theorem flat.at {K : PySem.W.Frag} {F : Hp} {v : V} {s : Sl} {x : PyData} (h : flat s = some x) (r : SlR K F v s) : scal x = true ∧ Dq F v x ∧ flatV v = true := by
  unfold flat at h
  split at h
  · cases h; exact ⟨rfl, r, by rw [dq_non r]; rfl⟩
  · cases h; exact ⟨rfl, r, by rw [dq_bl r]; rfl⟩
  · cases h; exact ⟨rfl, r, by rw [dq_int r]; rfl⟩
  · cases h; exact ⟨rfl, r, by rw [dq_str r]; rfl⟩
  · cases h
theorem eqV_eqv {F F' : Hp} {v w : V} {x y : PyData} (r : Dq F v x) (r' : Dq F' w y) (h : scal x = true) (h' : scal y = true) : eqV v w = PyData.eqv x y := by
  cases r <;> cases r' <;> first | rfl | cases h | cases h' | (simp [eqV, PyData.eqv])
theorem scalV {F : Hp} {v : V} {x : PyData} (r : Dq F v x) (h : scal x = true) : flatV v = true := by
  cases r <;> first | rfl | cases h
theorem all_flat {F : Hp} : ∀ {vs : List V} {ds : List PyData}, DqA F vs ds → ds.all scal = true → vs.all flatV = true
  | _, _, .nil, _ => rfl
  | _, _, .cons h r, q => by
    rw [List.all_cons, Bool.and_eq_true] at q
    rw [List.all_cons, scalV h q.1, all_flat r q.2]; rfl
theorem any_flat {F F' : Hp} {v : V} {x : PyData} (rx : Dq F v x) (hx : scal x = true) : ∀ {vs : List V} {ds : List PyData}, DqA F' vs ds → ds.all scal = true → inV v vs = inF x ds
  | _, _, .nil, _ => rfl
  | _, _, .cons h r, q => by
    rw [List.all_cons, Bool.and_eq_true] at q
    have ih := any_flat rx hx r q.2
    unfold inV inF at ih ⊢
    rw [List.any_cons, List.any_cons, ih, eqV_eqv h rx q.1 hx]
theorem cqa_dqa {K : PySem.W.Frag} {F : Hp} : ∀ {vs : List V} {ds : List PyData}, CqA K vs ds → ds.all scal = true → DqA F vs ds
  | _, _, .nil, _ => .nil
  | _, _, .cons h r, q => by
    rw [List.all_cons, Bool.and_eq_true] at q
    exact .cons (h.scal q.1) (cqa_dqa r q.2)
theorem SeqF.at {K : PySem.W.Frag} {F : Hp} {M : MHp} {H : Hp} {s : Sl} {v : V} {ds : List PyData} (h : SeqF M s ds) (hs : Hs K F M H) (r : SlR K F v s) (hf : ds.all scal = true) : ∃ a vs, v = .ref a ∧ (SqL K H a vs ∨ SqT K H a vs) ∧ DqA F vs ds := by
  unfold SeqF at h
  split at h
  · subst h; obtain ⟨a, vs, rfl, h1, h2⟩ := dq_lst r; exact ⟨a, vs, rfl, .inl (SqL.of (hs.ex _ _ h1)), h2⟩
  · subst h; obtain ⟨a, vs, rfl, h1, h2⟩ := dq_tup r; exact ⟨a, vs, rfl, .inr (SqT.of (hs.ex _ _ h1)), h2⟩
  · subst h
    cases r with
    | tup h1 h2 h3 h4 h5 h6 => exact ⟨_, _, rfl, .inr (.inr ⟨_, _, _, h1, h2, h3, h4, h5⟩), cqa_dqa h6 hf⟩
  · obtain ⟨vs, h1, h2⟩ := hs.lst h; exact ⟨_, vs, r, .inl (SqL.of h1), sls_data h2⟩
  · exact h.elim
theorem snd_inF {K : PySem.W.Frag} {neg : Bool} : Snd K (rIn K neg) (ρInF neg) := by
  intro F M H v1 v2 s1 s2 post Q hs r1 r2 h hf
  obtain ⟨x, ds, h1, h2, h3, hp⟩ := h
  obtain ⟨q1, q2, q3⟩ := flat.at h1 r1
  obtain ⟨a, vs, rfl, h4, h5⟩ := h2.at hs r2 h3
  exact ⟨a, vs, rfl, h4, q3, all_flat h5 h3, by rw [any_flat q2 q1 h5 h3]; exact hf.dat hs (.bl _) hp⟩
theorem pd_inF (ha : PD X a τa) (hb : PD X b τb) (hm : behindInMarks .In b = false := by rfl) : PD X (.Compare a [.In] [b] pos) (dOp (ρInF false) τa τb) := pd_cmp op_in_seq snd_inF ha hb hm
theorem pd_notInF (ha : PD X a τa) (hb : PD X b τb) (hm : behindInMarks .NotIn b = false := by rfl) : PD X (.Compare a [.NotIn] [b] pos) (dOp (ρInF true) τa τb) := pd_cmp op_notIn_seq snd_inF ha hb hm
theorem pdt_inF (ha : PD X a τa) (hb : PD X b τb) (hm : behindInMarks .In b = false := by rfl) : PDT X (.Compare a [.In] [b] pos) (dB (dOp (ρInF false) τa τb)) := pdt_cmp op_in_seq snd_inF ha hb hm
theorem pdt_notInF (ha : PD X a τa) (hb : PD X b τb) (hm : behindInMarks .NotIn b = false := by rfl) : PDT X (.Compare a [.NotIn] [b] pos) (dB (dOp (ρInF true) τa τb)) := pdt_cmp op_notIn_seq snd_inF ha hb hm
/-- of data in a list -/
def ρInD (neg : Bool) : DR2 := fun s1 s2 M post => ∃ x ds, DatOf M s1 x ∧ LstOf M s2 ds ∧ SeqAt.shaped x = true ∧ SeqAt.shaped (.list ds) = true ∧ post M (.d (.bool (if neg then !inF x ds else inF x ds)))
def rInDn (K : PySem.W.Frag) (neg : Bool) : R2 := fun x y H Q => ∃ d ds, Dp K H x d ∧ Dp K H y (.list ds) ∧ SeqAt.shaped d = true ∧ SeqAt.shaped (.list ds) = true ∧ Q (.bl (if neg then !inF d ds else inF d ds)) H
theorem op_inDn (hu : X.A.units + 65 < cLine) : OpR X (compareOp .In) (rInDn X.K false) := op_inD hu
theorem op_notInDn (hu : X.A.units + 65 < cLine) : OpR X (compareOp .NotIn) (rInDn X.K true) := op_notInD hu
theorem snd_inD {K : PySem.W.Frag} {neg : Bool} : Snd K (rInDn K neg) (ρInD neg) := by
  intro F M H v1 v2 s1 s2 post Q hs r1 r2 h hf
  obtain ⟨x, ds, h1, h2, h3, h4, hp⟩ := h
  obtain ⟨a, vs, rfl, h5, h6⟩ := h2.at hs r2
  exact ⟨x, ds, h1.at hs r1, .lst (SqL.of h5) (DqA.dp hs.ex ds vs h6), h3, h4, hf.dat hs (.bl _) hp⟩
theorem pd_inD (hu : X.A.units + 65 < cLine) (ha : PD X a τa) (hb : PD X b τb) (hm : behindInMarks .In b = false := by rfl) : PD X (.Compare a [.In] [b] pos) (dOp (ρInD false) τa τb) := pd_cmp (op_inDn hu) snd_inD ha hb hm
theorem pd_notInD (hu : X.A.units + 65 < cLine) (ha : PD X a τa) (hb : PD X b τb) (hm : behindInMarks .NotIn b = false := by rfl) : PD X (.Compare a [.NotIn] [b] pos) (dOp (ρInD true) τa τb) := pd_cmp (op_notInDn hu) snd_inD ha hb hm
theorem pdt_inD (hu : X.A.units + 65 < cLine) (ha : PD X a τa) (hb : PD X b τb) (hm : behindInMarks .In b = false := by rfl) : PDT X (.Compare a [.In] [b] pos) (dB (dOp (ρInD false) τa τb)) := pdt_cmp (op_inDn hu) snd_inD ha hb hm
theorem pdt_notInD (hu : X.A.units + 65 < cLine) (ha : PD X a τa) (hb : PD X b τb) (hm : behindInMarks .NotIn b = false := by rfl) : PDT X (.Compare a [.NotIn] [b] pos) (dB (dOp (ρInD true) τa τb)) := pdt_cmp (op_notInDn hu) snd_inD ha hb hm
/-- a chain as a test -/
theorem pdt_chain {op op' : CmpOp} {r r' : R2} {ρ ρ' : DR2} (ho : OpR X (compareOp op) r) (h : Snd X.K r ρ) (ho' : OpR X (compareOp op') r') (h' : Snd X.K r' ρ') (ha : PD X a τa) (hb : PD X b τb) (hc : PD X c τc) (hm : lastMarks [op, op'] [b, c] = false := by with_unfolding_all rfl) : PDT X (.Compare a [op, op'] [b, c] pos) (dB (dChain ρ ρ' τa τb τc)) := ptI (pt_chain ho ho' ha hb hc (hm := hm)) fun σ H Q hq => by
  obtain ⟨F, M, es, post, hs, he, ht, hf⟩ := hq
  refine ⟨F, M, es, _, hs, he, ht, fun M1 s1 F1 H1 v1 p1 e1 hs1 r1 => ?_⟩
  refine ⟨F1, M1, es, _, hs1, he.mono e1, p1, fun M2 s2 F2 H2 v2 p2 e2 hs2 r2 => ?_⟩
  refine h F2 M2 H2 v1 v2 s1 s2 _ _ hs2 (r1.mono e2) r2 p2 fun M3 s F3 H3 v p3 e3 hs3 r3 => ?_
  obtain ⟨k, rfl, p3⟩ := p3
  refine ⟨k, dq_bl r3, ?_⟩
  have hf3 := ((hf.mono e1).mono e2).mono e3
  cases k with
  | true =>
    rw [if_pos rfl] at p3; rw [if_pos rfl]
    refine ⟨F3, M3, es, _, hs3, ((he.mono e1).mono e2).mono e3, p3, fun M4 s4 F4 H4 v4 p4 e4 hs4 r4 => ?_⟩
    refine h' F4 M4 H4 v2 v4 s2 s4 _ _ hs4 ((r2.mono e3).mono e4) r4 p4 fun M5 s5 F5 H5 v5 p5 e5 hs5 r5 => ?_
    obtain ⟨k, rfl, p5⟩ := p5
    exact ⟨k, dq_bl r5, hf3 _ _ F5 H5 p5 (e4.trans e5) hs5⟩
  | false =>
    rw [if_neg Bool.false_ne_true] at p3; rw [if_neg Bool.false_ne_true]
    obtain ⟨k, e, p3⟩ := p3
    cases e
    exact ⟨false, rfl, hf3 _ _ F3 H3 p3 (Same.refl F3) hs3⟩
theorem pd_leLe (ha : PD X a τa) (hb : PD X b τb) (hc : PD X c τc) (hm : lastMarks [.LtE, .LtE] [b, c] = false := by with_unfolding_all rfl) : PD X (.Compare a [.LtE, .LtE] [b, c] pos) (dChain ρLe ρLe τa τb τc) := pd_chain op_le (snd_I0 fun _ _ _ => .bl _) op_le (snd_I0 fun _ _ _ => .bl _) ha hb hc hm
theorem pdt_leLe (ha : PD X a τa) (hb : PD X b τb) (hc : PD X c τc) (hm : lastMarks [.LtE, .LtE] [b, c] = false := by with_unfolding_all rfl) : PDT X (.Compare a [.LtE, .LtE] [b, c] pos) (dB (dChain ρLe ρLe τa τb τc)) := pdt_chain op_le (snd_I0 fun _ _ _ => .bl _) op_le (snd_I0 fun _ _ _ => .bl _) ha hb hc hm
/-! ### a text, sign by sign -/
def sgn (z : Str) (i : Nat) : PyData := .str ⟨#[z.cps.toList.getD i 0]⟩
def dSgn (τ : DT) : DI := fun M es post => τ M es fun M1 s => ∃ z, s = .d (.str z) ∧ post M1 ⟨z.cps.toList.length, fun i => .d (sgn z i), fun _ => True⟩
theorem pdi_str {tg : Expr} (h : PD X e τ) : PDI X tg e (dSgn τ) := piI (pi_str h) fun σ H R hq => by
  obtain ⟨F, M, es, post, hs, he, ht, hf⟩ := hq
  refine ⟨F, M, es, _, hs, he, ht, fun M1 s F1 H1 v p1 e1 hs1 r1 => ?_⟩
  obtain ⟨z, rfl, hp⟩ := p1
  refine ⟨z, dq_str r1, hf _ _ F1 H1 _ hp e1 hs1 ⟨fun i F' M' H' e hs' hg hi => ?_, fun F' M' H' e hs' hg => ?_, fun i F' M' H' x H'' e hs' hg hi hy => ?_⟩⟩
  · have hi : i < z.cps.toList.length := hi
    show i < z.cps.size
    simpa using hi
  · show z.cps.size ≤ z.cps.toList.length
    simp
  · obtain ⟨rfl, c, hc, rfl⟩ := hy
    refine ⟨F', Same.refl F', hs', ?_⟩
    have : z.cps.toList.getD i 0 = c := by
      rw [List.getD_eq_getElem?_getD, Array.getElem?_toList, hc]; rfl
    show Dq F' _ (sgn z i)
    unfold sgn
    rw [this]
    exact .str _
/-! ### methods of texts -/
def dM1 (ρ : Sl → Sl → MHp → DP → Prop) (τo τi : DT) : DT := fun M es post => τo M es fun M1 s => (∃ z, s = .d (.str z)) ∧ τi M1 es fun M2 s2 => ρ s s2 M2 post
theorem lift_m1 {K : PySem.W.Frag} {r : V → List V → Hp → VK → Prop} {ρ : Sl → Sl → MHp → DP → Prop} (h : ∀ F M H v1 v2 s1 s2 post Q, Hs K F M H → SlR K F v1 s1 → SlR K F v2 s2 → ρ s1 s2 M post → Fol K F post Q → r v1 [v2] H Q) {σ : L2.St} {H : Hp} {Q : VK} (hq : lift K (dM1 ρ τo τi) σ H Q) : tM1 r (lift K τo) (lift K τi) σ H Q := by
  obtain ⟨F, M, es, post, hs, he, ht, hf⟩ := hq
  refine ⟨F, M, es, _, hs, he, ht, fun M1 s F1 H1 v p1 e1 hs1 r1 => ?_⟩
  obtain ⟨⟨z, rfl⟩, p1⟩ := p1
  refine ⟨⟨z, dq_str r1⟩, F1, M1, es, _, hs1, he.mono e1, p1, fun M2 s2 F2 H2 v2 p2 e2 hs2 r2 => ?_⟩
  exact h F2 M2 H2 v v2 _ s2 post Q hs2 (r1.mono e2) r2 p2 ((hf.mono e1).mono e2)
/-- s.split(sep): data, or a list that may be changed -/
def ρSplit (mt : Bool) (s1 s2 : Sl) (M : MHp) (post : DP) : Prop := ∃ a b, s1 = .d (.str a) ∧ s2 = .d (.str b) ∧ (b.length == 0) = false ∧ a.length + 2 ≤ sizeLine ∧ if mt = true then ∀ p, M p = none → post (mput M p (.lst (((Txt.split a b).map PyData.str).map Sl.d))) (.m p) else post M (.d (.list ((Txt.split a b).map PyData.str)))
theorem pd_split {mt : Bool} (ho : PD X o τo) (hi : PD X i τi) (hs : starEach [i] X.env = [(false, eval i X.env)] := by rfl) (hbase : attributeBase o "split" X.env (eval o X.env) = eval o X.env := by rfl) (hline : (apos.endLine == pos.line) = true := by rfl) :
    PD X (.Call (.Attribute o "split" apos) [i] [] pos) (dM1 (ρSplit mt) τo τi) := peI (pe_split ho hi hs hbase hline) fun σ H Q hq => lift_m1 (by
  intro F M H v1 v2 s1 s2 post Q hs r1 r2 h hf
  obtain ⟨a, b, rfl, rfl, h1, h2, hp⟩ := h
  refine ⟨a, b, dq_str r1, by rw [dq_str r2], h1, h2, fun p np => ?_⟩
  cases mt with
  | true => rw [if_pos rfl] at hp; exact hf.newML hs (data_sls (dqa_strs _)) hp p np
  | false => rw [if_neg Bool.false_ne_true] at hp; exact hf.newL hs (dqa_strs _) hp p np) hq
/-- sep.join(texts) -/
def ρJoin (s1 s2 : Sl) (M : MHp) (post : DP) : Prop := ∃ (a : Str) (ys : List Str), s1 = .d (.str a) ∧ (LstOf M s2 (ys.map PyData.str) ∨ s2 = .d (.tuple (ys.map PyData.str))) ∧ (ys.map (·.length)).sum + ys.length * a.length ≤ 16777216 ∧ post M (.d (.str (Txt.join a ys)))
theorem pd_join (ho : PD X o τo) (hi : PD X i τi) (hs : starEach [i] X.env = [(false, eval i X.env)] := by rfl) (hbase : attributeBase o "join" X.env (eval o X.env) = eval o X.env := by rfl) (hline : (apos.endLine == pos.line) = true := by rfl) :
    PD X (.Call (.Attribute o "join" apos) [i] [] pos) (dM1 ρJoin τo τi) := peI (pe_join ho hi hs hbase hline) fun σ H Q hq => lift_m1 (by
  intro F M H v1 v2 s1 s2 post Q hs r1 r2 h hf
  obtain ⟨a, ys, rfl, h1, h2, hp⟩ := h
  rcases h1 with h1 | rfl
  · obtain ⟨p, us, rfl, h4, h5⟩ := h1.at hs r2
    rw [dqa_str h5] at h4
    exact ⟨a, p, ys, dq_str r1, rfl, .inl (SqL.of h4), h2, hf.dat hs (.str _) hp⟩
  · obtain ⟨p, us, rfl, h4, h5⟩ := dq_tup r2
    rw [dqa_str h5] at h4
    exact ⟨a, p, ys, dq_str r1, rfl, .inr (SqT.of (hs.ex _ _ h4)), h2, hf.dat hs (.str _) hp⟩) hq
/-- text.index(text) that is there -/
def ρSix (s1 s2 : Sl) (M : MHp) (post : DP) : Prop := ∃ (a b : Str) (i : Nat) (rest : List Nat), s1 = .d (.str a) ∧ s2 = .d (.str b) ∧ Builtin.Str.occurrences a b 0 a.length 1 = i :: rest ∧ post M (.d (.int i))
theorem pd_sindex (ho : PD X o τo) (hi : PD X i τi) (hs : starEach [i] X.env = [(false, eval i X.env)] := by rfl) (hbase : attributeBase o "index" X.env (eval o X.env) = eval o X.env := by rfl) (hline : (apos.endLine == pos.line) = true := by rfl) :
    PD X (.Call (.Attribute o "index" apos) [i] [] pos) (dM1 ρSix τo τi) := peI (pe_m1 PySem.F.slot_str_index PySem.F.type_str_index mt_sindex ho hi hs hbase hline) fun σ H Q hq => lift_m1 (by
  intro F M H v1 v2 s1 s2 post Q hs r1 r2 h hf
  obtain ⟨a, b, i, rest, rfl, rfl, h1, hp⟩ := h
  exact ⟨a, b, i, rest, dq_str r1, by rw [dq_str r2], h1, hf.dat hs (.int _) hp⟩) hq
/-- str(n) -/
def ρStrI : DB := fun ss M post => ∃ n : Int, ss = [.d (.int n)] ∧ n.natAbs.log2 < 1920 ∧ post M (.d (.str (toString n)))
theorem pd_strI {α : DA} (hg : Gl X "str") (hm : X.mg "str" = none) (ha : PDA X [e] α) (he : starEach [e] X.env = (false, eval e X.env) :: starEach [] X.env := by rfl) : PD X (.Call (.Name "str" p) [e] [] pos) (dCB ρStrI α) := pd_callTy call_str_int (by
  intro F M H vs ss post Q hs r0 h hf
  obtain ⟨n, rfl, h1, hp⟩ := h
  obtain ⟨v, rfl, r⟩ := sls1 r0
  exact ⟨n, by rw [dq_int r], h1, hf.dat hs (.str _) hp⟩) hg hm (by decide +kernel) ha (he := he)
/-- tuple(list) -/
def ρTuple : DB := fun ss M post => ∃ s ds, ss = [s] ∧ (LstOf M s ds ∨ s = .d (.tuple ds)) ∧ post M (.d (.tuple ds))
theorem pd_tuple {α : DA} (hg : Gl X "tuple") (hm : X.mg "tuple" = none) (ha : PDA X [e] α) (he : starEach [e] X.env = (false, eval e X.env) :: starEach [] X.env := by rfl) : PD X (.Call (.Name "tuple" p) [e] [] pos) (dCB ρTuple α) := pd_callTy call_tuple_of (by
  intro F M H vs ss post Q hs r0 h hf
  obtain ⟨s, ds, rfl, h1, hp⟩ := h
  obtain ⟨v, rfl, r⟩ := sls1 r0
  rcases h1 with h1 | rfl
  · obtain ⟨a, us, rfl, h4, h5⟩ := h1.at hs r
    exact ⟨a, us, rfl, .inl ⟨SqL.of h4, hf.newT hs h5 hp⟩⟩
  · obtain ⟨a, us, rfl, h4, h5⟩ := dq_tup r
    exact ⟨a, us, rfl, .inr ⟨SqT.of (hs.ex _ _ h4), hf.dat hs (.tup h4 h5) hp⟩⟩) hg hm (by decide +kernel) ha (he := he)
/-- 'c' + e.replace('y', 'z') -/
def dCatR (c y z : Str) (τo : DT) : DT := fun M es post => τo M es fun M1 s => ∃ x, s = .d (.str x) ∧ x.length + (x.length + 1) * z.length ≤ 16777216 ∧ c.length + (Txt.replace x y z).length ≤ sizeLine ∧ post M1 (.d (.str (c ++ Txt.replace x y z)))
theorem pd_catR {c y z : Str} {j j0 j1 : Nat} {pc c0 c1 : Pos} (ho : PD X o τo) (hyz : (y == z) = false := by decide)
    (hst : starEach [.Constant (.str y) j0 c0, .Constant (.str z) j1 c1] X.env = [(false, eval (.Constant (.str y) j0 c0) X.env), (false, eval (.Constant (.str z) j1 c1) X.env)] := by rfl)
    (hbase : attributeBase o "replace" X.env (eval o X.env) = eval o X.env := by rfl) (hline : (apos.endLine == p.line) = true := by rfl) :
    PD X (.BinOp (.Constant (.str c) j pc) .Add (.Call (.Attribute o "replace" apos) [.Constant (.str y) j0 c0, .Constant (.str z) j1 c1] [] p) pos) (dCatR c y z τo) := by
  refine ⟨fun pins s σ H Q I hq => ?_⟩
  obtain ⟨F, M, es, post, hs, he, ht, hf⟩ := hq
  refine wpAny_BinOp (Calls.Constant_str ?_)
  refine thn (CwR.pet_replC (to := lift X.K τo) ho hyz hst hbase hline pins { s with toks := s.toks + 1 } σ H (fun v H' => ∃ w, v = .str w ∧ c.length + w.length ≤ sizeLine ∧ Q (.str (c ++ w)) H') (by show 1 ≤ s.toks + 1; omega) (I.tok (s.toks + 1)) ?_) fun u s1 h => ?_
  · refine ⟨F, M, es, _, hs, he, ht, fun M1 s1 F1 H1 v p1 e1 hs1 r1 => ?_⟩
    obtain ⟨x, rfl, h1, h2, hp⟩ := p1
    exact ⟨x, dq_str r1, h1, _, rfl, h2, (hf.mono e1).dat hs1 (.str _) hp⟩
  · obtain ⟨v, H1, I1, r1, w, rfl, hl, q⟩ := h
    exact op_add_str pins s1 σ H1 (.str c) (.str w) _ _ Q I1 ⟨_, rfl⟩ r1 ⟨c, w, rfl, rfl, hl, q⟩
/-! ### o[i], q[j] = e -/
theorem set_lift {K : PySem.W.Frag} {F : Hp} {M : MHp} {H : Hp} {so si sv : Sl} {vo vi vv : V} {k : MHp → Prop} {Q : Hp → Prop} (hs : Hs K F M H) (ro : SlR K F vo so) (ri : SlR K F vi si) (rv : SlR K F vv sv) (h : ρSet so si sv M k)
    (hq : ∀ M' H', Hs K F M' H' → k M' → Q H') : rSetL vo vi vv H Q ∨ rSetD vo vi vv H Q := by
  unfold ρSet at h
  split at h
  · rename_i a x
    rcases h with ⟨ss, j, l, hM, rfl, hl, hp⟩ | hput
    · obtain ⟨vs, h1, h2⟩ := hs.lst hM
      exact .inl ⟨a, vs, j, l, ro, dq_int ri, h1, by rw [Paired.len' h2]; exact hl, hq _ _ (hs.set (o := .lst (ss.set l sv)) hM ⟨_, upd_same, Paired.set' rv l h2⟩) hp⟩
    · obtain ⟨H', M', h1, h2, h3⟩ := hput.at hs ri rv
      exact .inr ⟨a, H', ro, h1, hq _ _ h2 h3⟩
  · exact h.elim
def dSubs (τo1 τi1 τo2 τi2 τ : DT) : DS := fun D M es => τ M es fun M1 s => ∃ s1 s2, TupOf M1 s [s1, s2] ∧ τo1 M1 es fun M2 so => τi1 M2 es fun M3 si => ρSet so si s1 M3 fun M4 => τo2 M4 es fun M5 so2 => τi2 M5 es fun M6 si2 => ρSet so2 si2 s2 M6 fun M7 => D.nx M7 es
theorem pds_subs {tg : Expr} {τo1 τi1 τo2 τi2 : DT} (he : PD X e τ) (hg : PG X tg (gTup X.K 2 (gCons (gSub (lift X.K τo1) (lift X.K τi1) fun o i v H Q => rSetL o i v H Q ∨ rSetD o i v H Q) (gCons (gSub (lift X.K τo2) (lift X.K τi2) fun o i v H Q => rSetL o i v H Q ∨ rSetD o i v H Q) gNil))))
    (hs : swapsWithSole [tg] e pos.line X.env = pure false := by rfl) (hw : swappedStores [tg] e X.env = pure none := by rfl) (h1 : (assignEach [tg] X.env).map (·.2) = [assign tg X.env] := by rfl) : PDS X (.Assign [tg] e pos) (dSubs τo1 τi1 τo2 τi2 τ) :=
  psI (ps_asg he hg hs hw (h1 := h1)) fun D σ H hq => by
  obtain ⟨F, M, es, D', hs, he, ht, hf⟩ := hq
  refine ⟨F, M, es, _, hs, he, ht, fun M1 s F1 H1 v p1 e1 hs1 r1 => ?_⟩
  obtain ⟨s1, s2, h1, p1⟩ := p1
  obtain ⟨a, vs, rfl, h2, h3⟩ := h1.at hs1 r1
  obtain ⟨v1, v2, rfl, q1, q2⟩ := sls2 h3
  refine ⟨a, _, rfl, SqT.of h2, rfl, v1, [v2], rfl, ?_⟩
  have he1 := he.mono e1
  refine ⟨F1, M1, es, _, hs1, he1, p1, fun M2 so F2 H2 vo p2 e2 hs2 r2 => ?_⟩
  refine ⟨F2, M2, es, _, hs2, he1.mono e2, p2, fun M3 si F3 H3 vi p3 e3 hs3 r3 => ?_⟩
  refine set_lift hs3 (r2.mono e3) r3 ((q1.mono e2).mono e3) p3 fun M4 H4 hs4 p4 => ?_
  refine ⟨v2, [], rfl, ?_⟩
  have e13 : Same F1 F3 := e2.trans e3
  refine ⟨F3, M4, es, _, hs4, he1.mono e13, p4, fun M5 so2 F5 H5 vo2 p5 e5 hs5 r5 => ?_⟩
  refine ⟨F5, M5, es, _, hs5, (he1.mono e13).mono e5, p5, fun M6 si2 F6 H6 vi2 p6 e6 hs6 r6 => ?_⟩
  refine set_lift hs6 (r5.mono e6) r6 ((q2.mono e13).mono (e5.trans e6)) p6 fun M7 H7 hs7 p7 => ?_
  exact ⟨rfl, hf.nx _ _ F6 _ _ p7 (((e1.trans e13).trans e5).trans e6) hs7 ((he1.mono e13).mono (e5.trans e6))⟩
/-! ### a cut; what is never reached -/
def dSeqC (ςa ςb : DS) : DS := fun D M es => ∃ P : MHp → List Sl → Prop, ςa { D with nx := P } M es ∧ ∀ M' es', P M' es' → ςb D M' es'
theorem pds_consC {st : Stmt} {rest : List Stmt} {ςa ςb : DS} (h1 : PDS X st ςa) (h2 : PDSs X rest ςb) : PDSs X (st :: rest) (dSeqC ςa ςb) := pssI (pss_cons h1 h2) fun D σ H hq => by
  obtain ⟨F, M, es, D', hs, he, ⟨P, ht, hp⟩, hf⟩ := hq
  exact ⟨F, M, es, { D' with nx := P }, hs, he, ht, ⟨fun M1 es1 F1 σ1 H1 p1 e1 hs1 he1 => ⟨F1, M1, es1, D', hs1, he1, hp _ _ p1, hf.mono e1⟩, hf.rt, hf.bk, hf.ct⟩⟩
def dNever : DS := fun _ _ _ => False
theorem pds_never {st : Stmt} : PDS X st dNever := psI ps_never fun D σ H hq => by
  obtain ⟨F, M, es, D', hs, he, ht, hf⟩ := hq
  exact ht.elim
def dNv : DT := fun _ _ _ => False
theorem pd_never : PD X e dNv := ⟨fun pins s σ H Q I hq => by
  obtain ⟨F, M, es, D', hs, he, ht, hf⟩ := hq
  exact ht.elim⟩
end
end DL
set_option Elab.async false
set_option autoImplicit false
set_option linter.all false
set_option maxRecDepth 100000
set_option maxHeartbeats 2000000
namespace DL
open PySem PySem.Spec PySem.SeqAt PyProof.Rows L2
/-! ### a dict is no text -/
theorem dict_eq_declines_str (l : Addr) (o : Obj) (es : Array DictEntry) (ep : Nat) (b : Str) (u : Tok) (hc : o.cls = .type "dict") (hd : o.data = .dict es ep) :
    Meets (Builtin.«dict.__eq__» ⟨[.ref l, .str b u], []⟩) (fun _ R s => s.heap.get? l = some o ∧ R (.ok (.ret .notImplemented)) s) :=
  .of_wp fun prog w A R s h => by obtain ⟨hp, g, d, tk, os⟩ := s; obtain ⟨hl, h⟩ := h; have f1 := F.sub_str_dict; wp_walk using wpAny_loadPart' hl, wpAny_load hl; exact ⟨_, rfl, h⟩
theorem str_eq_declines_dict (b : Str) (u : Tok) (l : Addr) (o : Obj) (es : Array DictEntry) (ep : Nat) (hc : o.cls = .type "dict") (hd : o.data = .dict es ep) :
    Meets (Builtin.«str.__eq__» ⟨[.str b u, .ref l], []⟩) (fun _ R s => s.heap.get? l = some o ∧ R (.ok (.ret .notImplemented)) s) :=
  .of_wp fun prog w A R s h => by obtain ⟨hp, g, d, tk, os⟩ := s; obtain ⟨hl, h⟩ := h; obtain ⟨oc, od, oda, osl⟩ := o; simp only at hc hd; subst hc hd; wp_walk using wpAny_loadPart' hl, wpAny_load hl; exact ⟨_, rfl, h⟩

theorem rc_dict_str {A : Around} {s : Shared} {l : Addr} {o : Obj} {es : Array DictEntry} {ep : Nat} (b : Str) (u : Tok) (ho : s.heap.get? l = some o) (hc : o.cls = .type "dict") (hd : o.data = .dict es ep) (hu : A.units < cLine) : RcAt A s (.ref l) (.str b u) false := fun prog w E Q h =>
  rc_eq_decline_or (k := false) (Ta := "dict") ⟨_, ho, hc⟩ (typeIs_str s b u) (by decide) F.sub_str_dict F.slot_dict_eq F.slot_str_eq_refl
    (fun _ hq => call_meets F.slot_dict_eq ⟨_, ho, hc⟩ F.entry_dict_eq (F.args_dict_eq_2 _ _) (dict_eq_declines_str l o es ep b u hc hd) ⟨ho, hq⟩)
    (fun _ hq => call_meets F.slot_str_eq_refl (typeIs_str s b u) F.entry_str_eq (F.args_str_eq_2 _ _) (str_eq_declines_dict b u l o es ep hc hd) ⟨ho, hq⟩)
    (fun _ hq => wpAny_of_eq (rfl : isSame (.ref l) (.str b u) = pure false) hq) (.inr hu) h
section
variable {X : Cx} {a b : Expr} {τa τb : DT} {pos : Pos}
def rEqDS : R2 := fun x y H Q => ∃ a z kws, x = .ref a ∧ y = .str z ∧ H a = some (.dK kws) ∧ Q (.bl false) H
theorem op_eqDS (hu : X.A.units + 64 < cLine) : OpR X (compareOp .Eq) rEqDS := by
  intro pins s σ H x y v u Q I rx ry h
  obtain ⟨a, z, kws, rfl, rfl, hk, q⟩ := h
  cases (show v = Value.ref a from rx)
  obtain ⟨t, rfl⟩ := ry
  obtain ⟨_, _, vs, _, ⟨o, es, ep, ho, hx, hdt, _⟩⟩ := I.hok a _ hk
  exact rc_dict_str z t ho hx.1 hdt (by omega) X.prog X.w X.xe _ ⟨.bl false, H, I, rfl, q⟩
def ρEqX : DR2 := fun s1 s2 M post => ρEq s1 s2 M post ∨ ∃ a kvs z, s1 = .m a ∧ M a = some (.dK kvs) ∧ s2 = .d (.str z) ∧ post M (.d (.bool false))
theorem snd_eqX {K : PySem.W.Frag} : Snd K (fun x y H Q => rEqD K x y H Q ∨ rEqDS x y H Q) ρEqX := by
  intro F M H v1 v2 s1 s2 post Q hs r1 r2 h hf
  rcases h with h | ⟨a, kvs, z, rfl, hM, rfl, hp⟩
  · exact .inl (snd_eq F M H v1 v2 s1 s2 post Q hs r1 r2 h hf)
  · obtain ⟨kws, h1, h2⟩ := (show ∃ kws, H a = some (.dK kws) ∧ KS K F kws kvs from hs.ok _ _ hM)
    exact .inr ⟨a, z, kws, r1, dq_str r2, h1, hf.dat hs (.bl _) hp⟩
theorem pdt_eqX (hu : X.A.units + 64 < cLine) (ha : PD X a τa) (hb : PD X b τb) : PDT X (.Compare a [.Eq] [b] pos) (dB (dOp ρEqX τa τb)) := pdt_cmp (OpR.or (op_eqD hu) (op_eqDS hu)) snd_eqX ha hb (nomark _)
theorem pd_eqX (hu : X.A.units + 64 < cLine) (ha : PD X a τa) (hb : PD X b τb) : PD X (.Compare a [.Eq] [b] pos) (dOp ρEqX τa τb) := pd_cmp (OpR.or (op_eqD hu) (op_eqDS hu)) snd_eqX ha hb (nomark _)
theorem hu65 {k : Nat} {A : Around} (h : Room k A) : A.units + 65 < cLine := by have := h.un; omega
end
end DL
set_option Elab.async false
set_option autoImplicit false
set_option linter.all false
set_option maxRecDepth 100000
set_option maxHeartbeats 2000000
namespace DL
open PySem PySem.Spec PyProof.Rows L2
/-! ### what an expression gives, nothing being changed -/
def Ev (τ : DT) (M : MHp) (es : List Sl) (s : Sl) : Prop := ∀ post : DP, post M s → τ M es post
def EvT (θ : DTT) (M : MHp) (es : List Sl) (b : Bool) : Prop := ∀ post : MHp → Bool → Prop, post M b → θ M es post
def EvA (α : DA) (M : MHp) (es : List Sl) (ss : List Sl) : Prop := ∀ post : MHp → List Sl → Prop, post M ss → α M es post
section
variable {M : MHp} {es : List Sl} {τ τa τb τc : DT} {θ θa θb : DTT} {α : DA} {s s1 s2 : Sl} {ss : List Sl} {a b : Bool}
theorem ev_V {i : Nat} (h : es[i]? = some s) (hn : s ≠ .n) : Ev (dV i) M es s := fun _ hp => dV_eq h hn hp
theorem ev_C {x : PyData} : Ev (dC x) M es (.d x) := fun _ hp => hp
theorem ev_Cc {x : PyData} : Ev (dCc x) M es (.c x) := fun _ hp => hp
theorem ev_op {ρ : DR2} (ha : Ev τa M es s1) (hb : Ev τb M es s2) (hr : ∀ post : DP, post M s → ρ s1 s2 M post) : Ev (dOp ρ τa τb) M es s := fun post hp => ha _ (hb _ (hr post hp))
theorem ev_andV (ha : Ev τa M es (.d (.bool a))) (hb : a = true → Ev τb M es (.d (.bool b))) : Ev (dAndV τa τb) M es (.d (.bool (a && b))) := fun post hp => ha _ ⟨a, rfl, by
  cases a with
  | true => exact iteT (hb rfl _ hp)
  | false => exact iteF hp⟩
theorem ev_orV (ha : Ev τa M es (.d (.bool a))) (hb : a = false → Ev τb M es (.d (.bool b))) : Ev (dOrV τa τb) M es (.d (.bool (a || b))) := fun post hp => ha _ ⟨a, rfl, by
  cases a with
  | true => exact iteT hp
  | false => exact iteF (hb rfl _ hp)⟩
theorem ev_notV (ha : Ev τ M es (.d (.bool a))) : Ev (dNotV τ) M es (.d (.bool (!a))) := fun post hp => ha _ ⟨a, rfl, hp⟩
theorem ev_nil : EvA dNil M es [] := fun _ hp => hp
theorem ev_cons (h : Ev τ M es s) (hr : EvA α M es ss) : EvA (dCons τ α) M es (s :: ss) := fun _ hp => h _ (hr _ hp)
theorem ev_call {φ : DF} (ha : EvA α M es ss) (h : ∀ post : DP, post M s → φ M ss post) : Ev (dCall φ α) M es s := fun post hp => ha _ (h post hp)
theorem ev_cb {ρ : DB} (ha : EvA α M es ss) (h : ∀ post : DP, post M s → ρ ss M post) : Ev (dCB ρ α) M es s := fun post hp => ha _ (h post hp)
theorem ev_lst {ds : List PyData} (ha : EvA α M es (ds.map Sl.d)) (hl : ds.length ≤ 10000000) : Ev (dLst α) M es (.d (.list ds)) := fun post hp => ha _ ⟨ds, rfl, by rw [sizeLine_eq]; omega, hp⟩
theorem ev_tup {ds : List PyData} (ha : EvA α M es (ds.map Sl.d)) (hl : ds.length ≤ 10000000) : Ev (dTup α) M es (.d (.tuple ds)) := fun post hp => ha _ ⟨ds, rfl, by rw [sizeLine_eq]; omega, hp⟩
theorem ev_ifE (hc : EvT θ M es b) (ha : b = true → Ev τa M es s) (hb : b = false → Ev τb M es s) : Ev (dIfE θ τa τb) M es s := fun post hp => hc _ (by
  cases b with
  | true => exact iteT (ha rfl _ hp)
  | false => exact iteF (hb rfl _ hp))
theorem evT_b (h : Ev τ M es (.d (.bool b))) : EvT (dB τ) M es b := fun _ hp => h _ ⟨b, rfl, hp⟩
theorem evT_tru (h : Ev τ M es (.d (.bool b))) : EvT (dTru τ) M es b := fun _ hp => h _ hp
theorem evT_not (h : EvT θ M es b) : EvT (dNot θ) M es (!b) := fun _ hp => h _ hp
theorem evT_and (ha : EvT θa M es a) (hb : a = true → EvT θb M es b) : EvT (dAnd θa θb) M es (a && b) := fun post hp => ha _ (by
  cases a with
  | true => exact iteT (hb rfl _ hp)
  | false => exact iteF hp)
theorem evT_or (ha : EvT θa M es a) (hb : a = false → EvT θb M es b) : EvT (dOr θa θb) M es (a || b) := fun post hp => ha _ (by
  cases a with
  | true => exact iteT hp
  | false => exact iteF (hb rfl _ hp))
theorem evT_to {a' : Bool} (h : EvT θ M es a) (e : a = a') : EvT θ M es a' := e ▸ h
theorem ev_to {s' : Sl} (h : Ev τ M es s) (e : s = s') : Ev τ M es s' := e ▸ h
/-- statements -/
theorem st_set {i : Nat} {D : DE} (h : Ev τ M es s) (hn : D.nx M (es.set i s)) : dSet i τ D M es := h _ hn
theorem st_ret {D : DE} (h : Ev τ M es s) (hn : D.rt M s) : dRet τ D M es := h _ hn
theorem st_if {ςa ςb : DS} {D : DE} (h : EvT θ M es b) (ht : b = true → ςa D M es) (hf : b = false → ςb D M es) : dIf θ ςa ςb D M es := h _ (by
  cases b with
  | true => exact iteT (ht rfl)
  | false => exact iteF (hf rfl))
theorem st_seq {ςa ςb : DS} {D : DE} (h : ςa { D with nx := ςb D } M es) : dSeq ςa ςb D M es := h
/-- operators -/
theorem r_eq {x y : PyData} (h1 : SeqAt.shaped x = true) (h2 : SeqAt.shaped y = true) : ∀ post : DP, post M (.d (.bool (PyData.eqv x y))) → ρEq (.d x) (.d y) M post := fun _ h => ρEq_d ⟨h1, h2, h⟩
theorem r_ne {x y : PyData} (h1 : SeqAt.shaped x = true) (h2 : SeqAt.shaped y = true) : ∀ post : DP, post M (.d (.bool (!PyData.eqv x y))) → ρNe (.d x) (.d y) M post := fun _ h => ρNe_d ⟨h1, h2, h⟩
theorem r_inF {neg : Bool} {x : PyData} {ds : List PyData} (h1 : flat (.d x) = some x) (h2 : SeqF M s2 ds) (h3 : ds.all scal = true) : ∀ post : DP, post M (.d (.bool (if neg then !inF x ds else inF x ds))) → ρInF neg (.d x) s2 M post := fun _ h => ⟨x, ds, h1, h2, h3, h⟩
theorem r_ixt {ds : List PyData} {i : Nat} {d : PyData} (h : ds[i]? = some d) : ∀ post : DP, post M (.d d) → ρIx (.d (.tuple ds)) (.d (.int i)) M post := fun post hp => ⟨d, by
  unfold atI ixN
  have hi := (List.getElem?_eq_some_iff.mp h).1
  have : (0 : Int) ≤ i ∧ (i : Int) < ds.length := by omega
  simp [this, h] <;> omega, hp⟩
theorem r_ixl {ds : List PyData} {i : Nat} {d : PyData} (h : ds[i]? = some d) : ∀ post : DP, post M (.d d) → ρIx (.d (.list ds)) (.d (.int i)) M post := fun post hp => ⟨d, by
  unfold atI ixN
  have hi := (List.getElem?_eq_some_iff.mp h).1
  have : (0 : Int) ≤ i ∧ (i : Int) < ds.length := by omega
  simp [this, h] <;> omega, hp⟩
theorem flat_scal {x : PyData} (h : scal x = true) : flat (.d x) = some x := by cases x <;> first | rfl | cases h
end
end DL
set_option Elab.async false
set_option linter.all false
set_option autoImplicit false
set_option maxRecDepth 100000
namespace K01
open PySem PySem.Spec PyProof.Rows L2 DL
abbrev tl (x : Str) : List Nat := x.cps.toList
def letL : List Nat := tl "abcdefghijklmnopqrstuvwxyz"
def figL : List Nat := tl "0123456789"
def isWord (z : Str) : Bool := decide (1 ≤ z.length) && decide (z.length ≤ 8) && (tl z).all fun c => decide (c ∈ letL)
def resv : List PyData := [.str "head", .str "foot", .str "none"]
def isHand (z : Str) : Bool := isWord z && !inF (.str z) resv
def wholeD : PyData → Bool
  | .int _ => true
  | _ => false
def amongD (x : PyData) (lo hi : Int) : Bool := match x with
  | .int i => decide (lo ≤ i) && decide (i ≤ hi)
  | _ => false
def wordD : PyData → Bool
  | .str z => isWord z
  | _ => false
def handD : PyData → Bool
  | .str z => isHand z
  | _ => false
def nameD : PyData → Bool
  | .tuple [a, b] => handD a && amongD b 1 999
  | _ => false
def posD : PyData → Bool
  | .int i => decide (0 < i)
  | _ => false
def putD : PyData → Bool
  | .tuple [a, b, c] => nameD (.tuple [a, b]) && posD c
  | _ => false
def headL : PyData := .tuple [.str "", .int 0, .int 0]
def footL : PyData := .tuple [.str "", .int 0, .int 1]
def endD : PyData → Bool
  | .tuple [a, b, c] => wholeD b && wholeD c && (PyData.eqv (.tuple [a, b, c]) headL || PyData.eqv (.tuple [a, b, c]) footL)
  | _ => false
/-- a number of one to six figures -/
def isNum (z : Str) : Bool := decide (1 ≤ z.length) && decide (z.length ≤ 6) && (tl z).all (fun c => decide (c ∈ figL)) && !decide ((tl z).getD 0 0 = 48)
def numOf (z : Str) : PyData := if isNum z = true then .int (NumText.digitsVal (tl z)) else .none
/-- what a slot holds, as data -/
def dOf : Sl → PyData
  | .d x => x
  | _ => .dict []
/-- small scalars -/
def SmS (x : PyData) : Prop := scal x = true ∧ ∀ z, x = .str z → z.length ≤ 1000 ∧ PyData.strOk z = true
/-- a thing: its type is known, texts are short -/
structure Th (M : MHp) (s : Sl) : Prop where
  ty : ∃ T, tyN M s T
  str : ∀ z, s = .d (.str z) → z.length ≤ 1000 ∧ PyData.strOk z = true
  tup : ∀ ds, s = .d (.tuple ds) → ds.length ≤ 1000 ∧ ∀ d ∈ ds, SmS d
  nt : ∀ us, s ≠ .t us
def φ_is_whole : DF := fun M ss post => ∃ s T, ss = [s] ∧ tyN M s T ∧ post M (.d (.bool (wholeD (dOf s))))
def φ_is_among : DF := fun M ss post => ∃ s T lo hi, ss = [s, .d (.int lo), .d (.int hi)] ∧ tyN M s T ∧ post M (.d (.bool (amongD (dOf s) lo hi)))
def φ_is_word : DF := fun M ss post => ∃ s, ss = [s] ∧ Th M s ∧ post M (.d (.bool (wordD (dOf s))))
def φ_is_hand : DF := fun M ss post => ∃ s, ss = [s] ∧ Th M s ∧ post M (.d (.bool (handD (dOf s))))
def φ_is_name : DF := fun M ss post => ∃ s, ss = [s] ∧ Th M s ∧ post M (.d (.bool (nameD (dOf s))))
def φ_is_put_line : DF := fun M ss post => ∃ s, ss = [s] ∧ Th M s ∧ post M (.d (.bool (putD (dOf s))))
def φ_is_end : DF := fun M ss post => ∃ s, ss = [s] ∧ Th M s ∧ post M (.d (.bool (endD (dOf s))))
def numD : PyData → PyData
  | .str z => numOf z
  | _ => .none
def φ_number_of : DF := fun M ss post => ∃ s, ss = [s] ∧ Th M s ∧ post M (.d (numD (dOf s)))
def strI (i : Int) : Str := toString i
def nameT (a : Str) (b : Int) : Str := a ++ "." ++ strI b
def lineT (a : Str) (b c : Int) : Str := a ++ "." ++ strI b ++ "." ++ strI c
def φ_name_text : DF := fun M ss post => ∃ (a : Str) (b : Int), ss = [.d (.tuple [.str a, .int b])] ∧ a.length ≤ 1000 ∧ b.natAbs < 10 ^ 9 ∧ post M (.d (.str (nameT a b)))
def lineTD (x : PyData) : PyData := if PyData.eqv x headL = true then .str "head" else if PyData.eqv x footL = true then .str "foot" else match x with
  | .tuple [.str a, .int b, .int c] => .str (lineT a b c)
  | _ => .none
def φ_line_text : DF := fun M ss post => ∃ (a : Str) (b c : Int), ss = [.d (.tuple [.str a, .int b, .int c])] ∧ a.length ≤ 1000 ∧ PyData.strOk a = true ∧ b.natAbs < 10 ^ 9 ∧ c.natAbs < 10 ^ 9 ∧ post M (.d (lineTD (.tuple [.str a, .int b, .int c])))
/-- a text's parts, by points -/
def pts (z : Str) : List Str := Txt.split z "."
def nameOf (z : Str) : PyData := match pts z with
  | [a, b] => if nameD (.tuple [.str a, numOf b]) = true then .tuple [.str a, numOf b] else .none
  | _ => .none
def lineOf (z : Str) : PyData := match pts z with
  | [a, b, c] => if putD (.tuple [.str a, numOf b, numOf c]) = true then .tuple [.str a, numOf b, numOf c] else .none
  | _ => .none
def nameOfD : PyData → PyData
  | .str z => nameOf z
  | _ => .none
def φ_name_of : DF := fun M ss post => ∃ s, ss = [s] ∧ Th M s ∧ post M (.d (nameOfD (dOf s)))
def lineOfD : PyData → PyData
  | .str z => if z = "head" then headL else if z = "foot" then footL else lineOf z
  | _ => .none
/-- the line as told: head and foot are the module's own -/
def lineOfS : PyData → Sl
  | .str z => if z = "head" then .c headL else if z = "foot" then .c footL else .d (lineOf z)
  | _ => .d .none
/-- small lists of scalars too, or a dict -/
def Odd (M : MHp) (s : Sl) : Prop := Th M s ∧ ((∃ x, s = .d x ∧ SeqAt.shaped x = true) ∨ ∃ a kvs, s = .m a ∧ M a = some (.dK kvs))
def φ_line_of : DF := fun M ss post => ∃ s, ss = [s] ∧ Odd M s ∧ post M (lineOfS (dOf s))
/-- the words of a row -/
def wds (z : Str) : List Str := Txt.split z " "
def wordsOk (z : Str) : Bool := !inF (.str "") ((wds z).map PyData.str)
def φ_words_of : DF := fun M ss post => ∃ s, ss = [s] ∧ (∃ T, tyN M s T) ∧ ((∀ z, s ≠ .d (.str z)) ∧ post M (.d .none) ∨ ∃ z, s = .d (.str z) ∧ z.length ≤ 100000 ∧ (wordsOk z = false → post M (.d .none)) ∧ (wordsOk z = true → ∀ p, M p = none → post (mput M p (.lst (((wds z).map PyData.str).map Sl.d))) (.m p)))
/-! ### the law's own -/
def stt (l m : Int) : List (Key × Sl) := [(.inr "left", .d (.int l)), (.inr "more", .d (.int m))]
def φ__law_mixed : DF := fun M ss post => ∃ c k : Int, ss = [.d (.int c), .d (.int k)] ∧ 0 ≤ k ∧ k ≤ 1000000 ∧ ∀ v, 0 ≤ v → v < 2147483647 → post M (.d (.int v))
def φ__law_draw : DF := fun M ss post => ∃ c k : Int, ss = [.d (.int c), .d (.int k)] ∧ 0 ≤ k ∧ k ≤ 100000 ∧ ∀ p l m, M p = none → 0 ≤ l → 0 ≤ m → post (mput M p (.dK (stt l m))) (.m p)
def φ__law_digit : DF := fun M ss post => ∃ p l m n, ss = [.m p, .d (.int n)] ∧ M p = some (.dK (stt l m)) ∧ 0 ≤ l ∧ 0 ≤ m ∧ 0 < n ∧ n < 2 ^ 60 ∧ ∀ l' m' v, 0 ≤ l' → 0 ≤ m' → 0 ≤ v → v < n → post (mput M p (.dK (stt l' m'))) (.d (.int v))
def φ__law_word : DF := fun M ss post => ∃ p l m z, ss = [.m p, .d (.str z)] ∧ M p = some (.dK (stt l m)) ∧ 0 ≤ l ∧ 0 ≤ m ∧ 0 < z.length ∧ z.length ≤ 1000 ∧ PyData.strOk z = true ∧ ∀ l' m' w, 0 ≤ l' → 0 ≤ m' → w.length ≤ 10 → PyData.strOk w = true → post (mput M p (.dK (stt l' m'))) (.d (.str w))
/-- a short text -/
structure Sx (z : Str) : Prop where
  len : z.length ≤ 1000
  ok : PyData.strOk z = true
def φ__law_is_word : DF := fun M ss post => ∃ z, ss = [.d (.str z)] ∧ Sx z ∧ post M (.d (.bool (isWord z)))
def φ__law_number : DF := fun M ss post => ∃ z, ss = [.d (.str z)] ∧ Sx z ∧ post M (.d (numOf z))
def φ__law_parts : DF := fun M ss post => ∃ z n, ss = [.d (.str z), .d (.int n)] ∧ Sx z ∧ (n = 2 ∧ post M (.d (nameOf z)) ∨ n = 3 ∧ post M (.d (lineOf z)))
def φ__law_one : DF := fun M ss post => ∃ z, ss = [.d (.str z)] ∧ Sx z ∧ post M (.d (.bool true))
def φ__law_things : DF := fun M ss post => ∃ p l m, ss = [.m p] ∧ M p = some (.dK (stt l m)) ∧ 0 ≤ l ∧ 0 ≤ m ∧ ∀ l' m', 0 ≤ l' → 0 ≤ m' → post (mput M p (.dK (stt l' m'))) (.d (.bool true))
/-- a word of a row -/
structure Wd (z : Str) : Prop where
  len : z.length ≤ 100
  ok : PyData.strOk z = true
  ne : tl z ≠ []
  nb : 32 ∉ tl z
def φ__law_row : DF := fun M ss post => ∃ (ws : List Str) (n : Int), ss = [.d (.list (ws.map PyData.str)), .d (.int n)] ∧ ws ≠ [] ∧ ws.length ≤ 100 ∧ (∀ w ∈ ws, Wd w) ∧ post M (.d (.bool true))
def φ_law : DF := fun M ss post => ∃ ns : List Int, ss = [.s ns] ∧ ns.length ≤ 63 ∧ ∀ M', post M' (.d (.bool true))
end K01
set_option Elab.async false
set_option linter.all false
set_option maxRecDepth 100000
set_option maxHeartbeats 4000000
namespace K01
open PySem PySem.Spec PyProof.Rows L2 DL
/-- is_whole: thing 0 -/
def c_is_whole : DS :=
  (dRet (dAndV (dIsi ["int"] (dV 0)) (dNotV (dIsi ["bool"] (dV 0)))))
/-- is_among: thing 0, least 1, most 2 -/
def c_is_among : DS :=
  (dRet (dAndV (dCall φ_is_whole (dCons (dV 0) dNil)) (dChain ρLe ρLe (dV 1) (dV 0) (dV 2))))
/-- is_word: thing 0, sign 1 -/
def c_is_word : DS :=
  (dSeq (dIf (dOr (dNot (dTru (dIsi ["str"] (dV 0)))) (dNot (dB (dChain ρLe ρLe (dC (.int 1)) (dCB ρLen (dCons (dV 0) dNil)) (dC (.int 8)))))) (dRet (dC (.bool false)))
  dNext)
  (dRet (dCB ρAll (dCons (dLc finD (dSgn (dV 0)) (.nm 1) dYes (dOp (ρInS false) (dV 1) (dC (.str "abcdefghijklmnopqrstuvwxyz"))) [1]) dNil))))
/-- is_hand: thing 0 -/
def c_is_hand : DS :=
  (dRet (dAndV (dCall φ_is_word (dCons (dV 0) dNil)) (dOp (ρInF true) (dV 0) (dCc (.tuple [(.str "head"), (.str "foot"), (.str "none")])))))
/-- is_name: thing 0 -/
def c_is_name : DS :=
  (dSeq (dIf (dOr (dNot (dTru (dIsi ["tuple"] (dV 0)))) (dB (dOp ρNe (dCB ρLen (dCons (dV 0) dNil)) (dC (.int 2))))) (dRet (dC (.bool false)))
  dNext)
  (dRet (dAndV (dCall φ_is_hand (dCons (dOp ρIx (dV 0) (dC (.int 0))) dNil)) (dCall φ_is_among (dCons (dOp ρIx (dV 0) (dC (.int 1))) (dCons (dC (.int 1)) (dCons (dC (.int 999)) dNil)))))))
/-- is_put_line: thing 0 -/
def c_is_put_line : DS :=
  (dSeq (dIf (dOr (dNot (dTru (dIsi ["tuple"] (dV 0)))) (dB (dOp ρNe (dCB ρLen (dCons (dV 0) dNil)) (dC (.int 3))))) (dRet (dC (.bool false)))
  dNext)
  (dRet (dAndV (dCall φ_is_name (dCons (dSl (dV 0) dNoP (dPart (dC (.int 2)))) dNil)) (dAndV (dCall φ_is_whole (dCons (dOp ρIx (dV 0) (dC (.int 2))) dNil)) (dOp ρGt (dOp ρIx (dV 0) (dC (.int 2))) (dC (.int 0)))))))
/-- is_end: thing 0, part 1 -/
def c_is_end : DS :=
  (dSeq (dIf (dOr (dNot (dTru (dIsi ["tuple"] (dV 0)))) (dOr (dB (dOp ρNe (dCB ρLen (dCons (dV 0) dNil)) (dC (.int 3)))) (dNot (dTru (dCB ρAll (dCons (dLc finD (dIn (dSl (dV 0) (dPart (dC (.int 1))) dNoP)) (.nm 1) dYes (dCall φ_is_whole (dCons (dV 1) dNil)) [1]) dNil)))))) (dRet (dC (.bool false)))
  dNext)
  (dRet (dOrV (dOp ρEq (dV 0) (dCc (.tuple [(.str ""), (.int 0), (.int 0)]))) (dOp ρEq (dV 0) (dCc (.tuple [(.str ""), (.int 0), (.int 1)]))))))
/-- number_of: word 0, sign 1 -/
def c_number_of : DS :=
  (dSeq (dIf (dOr (dNot (dTru (dIsi ["str"] (dV 0)))) (dNot (dB (dChain ρLe ρLe (dC (.int 1)) (dCB ρLen (dCons (dV 0) dNil)) (dC (.int 6)))))) (dRet (dC .none))
  dNext)
  (dSeq (dIf (dOr (dNot (dTru (dCB ρAll (dCons (dLc finD (dSgn (dV 0)) (.nm 1) dYes (dOp (ρInS false) (dV 1) (dC (.str "0123456789"))) [1]) dNil)))) (dB (dOp ρEq (dOp ρIx (dV 0) (dC (.int 0))) (dC (.str "0"))))) (dRet (dC .none))
  dNext)
  (dRet (dCB ρInt (dCons (dV 0) dNil)))))
/-- name_text: name 0 -/
def c_name_text : DS :=
  (dRet (dOp ρAdd (dOp ρAdd (dOp ρIx (dV 0) (dC (.int 0))) (dC (.str "."))) (dCB ρStrI (dCons (dOp ρIx (dV 0) (dC (.int 1))) dNil))))
/-- line_text: line 0 -/
def c_line_text : DS :=
  (dSeq (dIf (dB (dOp ρEq (dV 0) (dCc (.tuple [(.str ""), (.int 0), (.int 0)])))) (dRet (dC (.str "head")))
  dNext)
  (dSeq (dIf (dB (dOp ρEq (dV 0) (dCc (.tuple [(.str ""), (.int 0), (.int 1)])))) (dRet (dC (.str "foot")))
  dNext)
  (dRet (dOp ρAdd (dOp ρAdd (dOp ρAdd (dOp ρAdd (dOp ρIx (dV 0) (dC (.int 0))) (dC (.str "."))) (dCB ρStrI (dCons (dOp ρIx (dV 0) (dC (.int 1))) dNil))) (dC (.str "."))) (dCB ρStrI (dCons (dOp ρIx (dV 0) (dC (.int 2))) dNil))))))
/-- name_of: word 0, parts 1, found 2 -/
def c_name_of : DS :=
  (dSeq (dSet 1 (dIfE (dTru (dIsi ["str"] (dV 0))) (dM1 (ρSplit false) (dV 0) (dC (.str "."))) (dLst dNil)))
  (dSeq (dIf (dB (dOp ρNe (dCB ρLen (dCons (dV 1) dNil)) (dC (.int 2)))) (dRet (dC .none))
  dNext)
  (dSeq (dSet 2 (dTup (dCons (dOp ρIx (dV 1) (dC (.int 0))) (dCons (dCall φ_number_of (dCons (dOp ρIx (dV 1) (dC (.int 1))) dNil)) dNil))))
  (dRet (dIfE (dTru (dCall φ_is_name (dCons (dV 2) dNil))) (dV 2) (dC .none))))))
/-- line_of: word 0, parts 1, found 2 -/
def c_line_of : DS :=
  (dSeq (dIf (dB (dOp ρEqX (dV 0) (dC (.str "head")))) (dRet (dCc (.tuple [(.str ""), (.int 0), (.int 0)])))
  dNext)
  (dSeq (dIf (dB (dOp ρEqX (dV 0) (dC (.str "foot")))) (dRet (dCc (.tuple [(.str ""), (.int 0), (.int 1)])))
  dNext)
  (dSeq (dSet 1 (dIfE (dTru (dIsi ["str"] (dV 0))) (dM1 (ρSplit false) (dV 0) (dC (.str "."))) (dLst dNil)))
  (dSeq (dIf (dB (dOp ρNe (dCB ρLen (dCons (dV 1) dNil)) (dC (.int 3)))) (dRet (dC .none))
  dNext)
  (dSeq (dSet 2 (dTup (dCons (dOp ρIx (dV 1) (dC (.int 0))) (dCons (dCall φ_number_of (dCons (dOp ρIx (dV 1) (dC (.int 1))) dNil)) (dCons (dCall φ_number_of (dCons (dOp ρIx (dV 1) (dC (.int 2))) dNil)) dNil)))))
  (dRet (dIfE (dTru (dCall φ_is_put_line (dCons (dV 2) dNil))) (dV 2) (dC .none))))))))
/-- words_of: row 0, found 1 -/
def c_words_of : DS :=
  (dSeq (dIf (dNot (dTru (dIsi ["str"] (dV 0)))) (dRet (dC .none))
  dNext)
  (dSeq (dSet 1 (dM1 (ρSplit true) (dV 0) (dC (.str " "))))
  (dSeq (dIf (dB (dOp (ρInF false) (dC (.str "")) (dV 1))) (dRet (dC .none))
  dNext)
  (dRet (dV 1)))))
/-- _law_mixed: _law_cell 0, _law_k 1 -/
def c__law_mixed : DS :=
  (dSeq (dSet 0 (dOp ρAdd (dOp ρAdd (dOp ρMod (dV 0) (dC (.int 1000000007))) (dOp ρMul (dC (.int 7919)) (dV 1))) (dC (.int 13))))
  (dRet (dOp ρMod (dOp ρMul (dOp ρMod (dOp ρMul (dV 0) (dV 0)) (dC (.int 1000000007))) (dC (.int 48271))) (dC (.int 2147483647)))))
/-- _law_draw: _law_cell 0, _law_k 1, _law_first 2, _law_more 3 -/
def c__law_draw : DS :=
  (dSeq (dSet 2 (dCall φ__law_mixed (dCons (dV 0) (dCons (dV 1) dNil))))
  (dSeq (dSet 3 (dOp ρAdd (dOp ρAdd (dOp ρMul (dCall φ__law_mixed (dCons (dV 2) (dCons (dOp ρAdd (dV 1) (dC (.int 1))) dNil))) (dOp ρPow (dC (.int 2147483647)) (dC (.int 2)))) (dOp ρMul (dCall φ__law_mixed (dCons (dV 2) (dCons (dOp ρAdd (dV 1) (dC (.int 2))) dNil))) (dC (.int 2147483647)))) (dV 2)))
  (dRet (dDisp [((dC (.str "left")), (dIfE (dB (dOp ρGe (dV 0) (dOp ρPow (dC (.int 10)) (dC (.int 18))))) (dV 0) (dV 3))), ((dC (.str "more")), (dIfE (dB (dOp ρGe (dV 0) (dOp ρPow (dC (.int 10)) (dC (.int 18))))) (dV 3) (dC (.int 0))))]))))
/-- _law_digit: _law_state 0, _law_many 1, _law_found 2 -/
def c__law_digit : DS :=
  (dSeq (dIf (dB (dOp ρEq (dOp ρDk (dV 0) (dC (.str "left"))) (dC (.int 0)))) (dSubs (dV 0) (dC (.str "left")) (dV 0) (dC (.str "more")) (dTup (dCons (dOp ρDk (dV 0) (dC (.str "more"))) (dCons (dC (.int 0)) dNil))))
  dNext)
  (dSeq (dSet 2 (dOp ρMod (dOp ρDk (dV 0) (dC (.str "left"))) (dV 1)))
  (dSeq (dSub (dV 0) (dC (.str "left")) (dOp ρDiv (dOp ρDk (dV 0) (dC (.str "left"))) (dV 1)))
  (dRet (dV 2)))))
/-- _law_word: _law_state 0, _law_signs 1, _law_k 2 -/
def c__law_word : DS :=
  (dRet (dM1 ρJoin (dC (.str "")) (dLc finD (dRng1 (dCons (dCall φ__law_digit (dCons (dV 0) (dCons (dC (.int 11)) dNil))) dNil)) (.nm 2) dYes (dOp ρIx (dV 1) (dCall φ__law_digit (dCons (dV 0) (dCons (dCB ρLen (dCons (dV 1) dNil)) dNil)))) [2])))
/-- _law_is_word: _law_word_here 0, _law_letters 1, _law_sign 2 -/
def c__law_is_word : DS :=
  (dSeq (dSet 1 (dLc finD (dSgn (dV 0)) (.nm 2) (dB (dOp (ρInS false) (dV 2) (dC (.str "abcdefghijklmnopqrstuvwxyz")))) (dV 2) [2]))
  (dRet (dAndV (dChain ρLe ρLe (dC (.int 1)) (dCB ρLen (dCons (dV 0) dNil)) (dC (.int 8))) (dOp ρEq (dCB ρLen (dCons (dV 1) dNil)) (dCB ρLen (dCons (dV 0) dNil))))))
def c__law_number_b1 : DS :=
  (dSet 2 (dOp ρAdd (dOp ρMul (dV 2) (dC (.int 10))) (dM1 ρSix (dC (.str "0123456789")) (dV 1))))
/-- _law_number: _law_word_here 0, _law_sign 1, _law_found 2 -/
def c__law_number : DS :=
  (dSeq (dIf (dOr (dNot (dB (dChain ρLe ρLe (dC (.int 1)) (dCB ρLen (dCons (dV 0) dNil)) (dC (.int 6))))) (dB (dOp (ρInS true) (dOp ρIx (dV 0) (dC (.int 0))) (dC (.str "123456789"))))) (dRet (dC .none))
  dNext)
  (dSeq (dIf (dB (dOp ρNe (dLc finD (dSgn (dV 0)) (.nm 1) (dB (dOp (ρInS true) (dV 1) (dC (.str "0123456789")))) (dV 1) [1]) (dLst dNil))) (dRet (dC .none))
  dNext)
  (dSeq (dSet 2 (dC (.int 0)))
  (dSeq (dFor (dSgn (dV 0)) (.nm 1)
  c__law_number_b1)
  (dRet (dV 2))))))
/-- _law_parts: _law_word_here 0, _law_many 1, _law_parts_here 2, _law_numbers 3, _law_part 4 -/
def c__law_parts : DS :=
  (dSeq (dSet 2 (dM1 (ρSplit false) (dV 0) (dC (.str "."))))
  (dSeq (dIf (dOr (dB (dOp ρNe (dCB ρLen (dCons (dV 2) dNil)) (dV 1))) (dOr (dNot (dTru (dCall φ__law_is_word (dCons (dOp ρIx (dV 2) (dC (.int 0))) dNil)))) (dB (dOp (ρInF false) (dOp ρIx (dV 2) (dC (.int 0))) (dLst (dCons (dC (.str "head")) (dCons (dC (.str "foot")) (dCons (dC (.str "none")) dNil)))))))) (dRet (dC .none))
  dNext)
  (dSeq (dSet 3 (dLc finD (dIn (dSl (dV 2) (dPart (dC (.int 1))) dNoP)) (.nm 4) dYes (dCall φ__law_number (dCons (dV 4) dNil)) [4]))
  (dSeq (dIf (dOr (dB (dOp (ρInF false) (dC .none) (dV 3))) (dB (dOp ρGt (dOp ρIx (dV 3) (dC (.int 0))) (dC (.int 999))))) (dRet (dC .none))
  dNext)
  (dRet (dCB ρTuple (dCons (dOp ρAdd (dLst (dCons (dOp ρIx (dV 2) (dC (.int 0))) dNil)) (dV 3)) dNil)))))))
/-- _law_one: _law_word_here 0, _law_line 1, _law_hand 2 -/
def c__law_one : DS :=
  (dSeq (dSet 1 (dGet2 (dDisp [((dC (.str "head")), (dTup (dCons (dC (.str "")) (dCons (dC (.int 0)) (dCons (dC (.int 0)) dNil))))), ((dC (.str "foot")), (dTup (dCons (dC (.str "")) (dCons (dC (.int 0)) (dCons (dC (.int 1)) dNil)))))]) (dV 0) (dCall φ__law_parts (dCons (dV 0) (dCons (dC (.int 3)) dNil)))))
  (dSeq (dIf (dOr (dB (dOp ρNe (dCall φ_number_of (dCons (dV 0) dNil)) (dCall φ__law_number (dCons (dV 0) dNil)))) (dOr (dB (dOp ρNe (dCall φ_name_of (dCons (dV 0) dNil)) (dCall φ__law_parts (dCons (dV 0) (dCons (dC (.int 2)) dNil))))) (dB (dOp ρNe (dCall φ_line_of (dCons (dV 0) dNil)) (dV 1))))) (dRet (dC (.bool false)))
  dNext)
  (dSeq (dIf (dAnd (dB (dOp (ρIsN true) (dV 1) (dC .none))) (dB (dOp ρNe (dCall φ_line_text (dCons (dV 1) dNil)) (dV 0)))) (dRet (dC (.bool false)))
  dNext)
  (dSeq (dIf (dAnd (dB (dOp (ρIsN true) (dCall φ_name_of (dCons (dV 0) dNil)) (dC .none))) (dB (dOp ρNe (dCall φ_name_text (dCons (dCall φ_name_of (dCons (dV 0) dNil)) dNil)) (dV 0)))) (dRet (dC (.bool false)))
  dNext)
  (dSeq (dSet 2 (dAndV (dCall φ__law_is_word (dCons (dV 0) dNil)) (dOp (ρInF true) (dV 0) (dLst (dCons (dC (.str "head")) (dCons (dC (.str "foot")) (dCons (dC (.str "none")) dNil)))))))
  (dRet (dAndV (dOp ρEq (dCall φ_is_word (dCons (dV 0) dNil)) (dCall φ__law_is_word (dCons (dV 0) dNil))) (dOp ρEq (dCall φ_is_hand (dCons (dV 0) dNil)) (dV 2)))))))))
def c__law_things_b1 : DS :=
  (dSeq (dSet 8 (dAndV (dOp ρEq (dV 7) (dTup (dCons (dC (.str "")) (dCons (dC (.int 0)) (dCons (dOp ρIx (dV 7) (dC (.int 2))) dNil))))) (dAndV (dNotV (dIsi ["bool"] (dOp ρIx (dV 7) (dC (.int 1))))) (dNotV (dIsi ["bool"] (dOp ρIx (dV 7) (dC (.int 2))))))))
  (dRet (dAndV (dOp ρEq (dCall φ_is_end (dCons (dV 7) dNil)) (dV 8)) (dAndV (dNotV (dCall φ_is_end (dCons (dCB (ρList false) (dCons (dV 7) dNil)) dNil))) (dAndV (dNotV (dCall φ_is_end (dCons (dTup (dCons (dC (.str "a")) (dCons (dC (.int 0)) (dCons (dC (.int 0)) dNil)))) dNil))) (dNotV (dCall φ_is_end (dCons (dTup (dCons (dC (.str "")) (dCons (dC (.int 0)) dNil))) dNil))))))))
def c__law_things_b2 : DS :=
  (dSeq (dSet 7 (dTup (dCons (dC (.str "")) (dCons (dOp ρIx (dLst (dCons (dC (.int 0)) (dCons (dC (.int 1)) (dCons (dC (.bool false)) (dCons (dC (.int 2)) dNil))))) (dCall φ__law_digit (dCons (dV 0) (dCons (dC (.int 4)) dNil)))) (dCons (dOp ρIx (dLst (dCons (dC (.int 0)) (dCons (dC (.int 1)) (dCons (dC (.bool true)) (dCons (dC (.bool false)) dNil))))) (dCall φ__law_digit (dCons (dV 0) (dCons (dC (.int 4)) dNil)))) dNil)))))
  c__law_things_b1)
/-- _law_things: _law_state 0, _law_hand 1, _law_number_here 2, _law_place 3, _law_good 4, _law_fits 5, _law_line 6, _law_ends 7, _law_due 8 -/
def c__law_things : DS :=
  (dSeq (dSet 1 (dOp ρIx (dLst (dCons (dC (.str "a")) (dCons (dC (.str "none")) (dCons (dC (.str "Bo")) (dCons (dC (.str "")) (dCons (dC (.str "head")) (dCons (dC (.str "abcdefghi")) (dCons (dC (.str "z")) (dCons (dC (.int 7)) dNil))))))))) (dCall φ__law_digit (dCons (dV 0) (dCons (dC (.int 8)) dNil)))))
  (dSeq (dSet 2 (dOp ρIx (dLst (dCons (dC (.int 1)) (dCons (dC (.int 999)) (dCons (dC (.int 0)) (dCons (dC (.int 1000)) (dCons (dC (.bool true)) (dCons (dC (.str "1")) (dCons (dC (.int 5)) (dCons (dUn ρNeg (dC (.int 3))) dNil))))))))) (dCall φ__law_digit (dCons (dV 0) (dCons (dC (.int 8)) dNil)))))
  (dSeq (dSet 3 (dOp ρIx (dLst (dCons (dC (.int 1)) (dCons (dC (.int 0)) (dCons (dC (.int 7)) (dCons (dC (.bool true)) (dCons (dC .none) (dCons (dOp ρPow (dC (.int 10)) (dC (.int 30))) (dCons (dC (.str "2")) (dCons (dUn ρNeg (dC (.int 1))) dNil))))))))) (dCall φ__law_digit (dCons (dV 0) (dCons (dC (.int 8)) dNil)))))
  (dSeq (dSet 4 (dAndV (dOp (ρInF false) (dV 1) (dLst (dCons (dC (.str "a")) (dCons (dC (.str "z")) dNil)))) (dAndV (dOp (ρInF false) (dV 2) (dLst (dCons (dC (.int 1)) (dCons (dC (.int 999)) (dCons (dC (.int 5)) dNil))))) (dOp (ρIsB true) (dV 2) (dC (.bool true))))))
  (dSeq (dIf (dOr (dB (dOp ρNe (dCall φ_is_name (dCons (dTup (dCons (dV 1) (dCons (dV 2) dNil))) dNil)) (dV 4))) (dOr (dTru (dCall φ_is_name (dCons (dLst (dCons (dV 1) (dCons (dV 2) dNil))) dNil))) (dTru (dCall φ_is_name (dCons (dTup (dCons (dV 1) (dCons (dV 2) (dCons (dV 3) dNil)))) dNil))))) (dRet (dC (.bool false)))
  dNext)
  (dSeq (dSet 5 (dAndV (dV 4) (dAndV (dOp (ρInF false) (dV 3) (dLst (dCons (dC (.int 1)) (dCons (dC (.int 7)) (dCons (dOp ρPow (dC (.int 10)) (dC (.int 30))) dNil))))) (dOp (ρIsB true) (dV 3) (dC (.bool true))))))
  (dSeq (dSet 6 (dTup (dCons (dV 1) (dCons (dV 2) (dCons (dV 3) dNil)))))
  (dSeq (dIf (dOr (dB (dOp ρNe (dCall φ_is_put_line (dCons (dV 6) dNil)) (dV 5))) (dOr (dTru (dCall φ_is_put_line (dCons (dCB (ρList false) (dCons (dV 6) dNil)) dNil))) (dTru (dCall φ_is_put_line (dCons (dSl (dV 6) dNoP (dPart (dC (.int 2)))) dNil))))) (dRet (dC (.bool false)))
  dNext)
  c__law_things_b2))))))))
def c__law_row_b1 : DS :=
  (dSeq (dSet 4 (dCall φ_words_of (dCons (dV 2) dNil)))
  (dSeq (dIf (dOr (dNot (dTru (dIsi ["list"] (dV 4)))) (dB (dOp ρNe (dV 4) (dV 0)))) (dRet (dC (.bool false)))
  dNext)
  (dExpr (dBM "list" ρApp (dV 4) (dCons (dC (.str "x")) dNil)))))
/-- _law_row: _law_words 0, _law_number_here 1, _law_row_here 2, _law_turn 3, _law_found 4, _law_at 5, _law_parts_here 6 -/
def c__law_row : DS :=
  (dSeq (dSet 2 (dM1 ρJoin (dC (.str " ")) (dV 0)))
  (dSeq (dFor (dRng1 (dCons (dC (.int 2)) dNil)) (.nm 3)
  c__law_row_b1)
  (dSeq (dSet 5 (dOp ρMod (dV 1) (dOp ρAdd (dCB ρLen (dCons (dV 2) dNil)) (dC (.int 1)))))
  (dSeq (dSet 6 (dM1 (ρSplit false) (dOp ρAdd (dOp ρAdd (dSl (dV 2) dNoP (dPart (dV 5))) (dC (.str " "))) (dSl (dV 2) (dPart (dV 5)) dNoP)) (dC (.str " "))))
  (dRet (dOp ρEq (dCall φ_words_of (dCons (dOp ρAdd (dOp ρAdd (dSl (dV 2) dNoP (dPart (dV 5))) (dC (.str " "))) (dSl (dV 2) (dPart (dV 5)) dNoP)) dNil)) (dIfE (dB (dOp (ρInF false) (dC (.str "")) (dV 6))) (dC .none) (dV 6))))))))
def c_law_b1 : DS :=
  (dIf (dNot (dTru (dCall φ__law_one (dCons (dV 8) dNil)))) (dRet (dC (.bool false)))
  dNext)
def c_law_b2 : DS :=
  (dIf (dOr (dB (dOp (ρIsB true) (dCall φ_is_among (dCons (dV 12) (dCons (dOp ρSub (dV 12) (dC (.int 1))) (dCons (dV 12) dNil)))) (dC (.bool true)))) (dB (dOp (ρIsB true) (dCall φ_is_among (dCons (dV 12) (dCons (dOp ρAdd (dV 12) (dC (.int 1))) (dCons (dOp ρAdd (dV 12) (dC (.int 2))) dNil)))) (dC (.bool false))))) (dRet (dC (.bool false)))
  dNext)
def c_law_b3 : DS :=
  (dSeq (dSet 12 (dOp ρMod (dV 3) (dOp ρPow (dC (.int 10)) (dC (.int 60)))))
  c_law_b2)
def c_law_b4 : DS :=
  (dSeq (dIf (dOr (dB (dOp ρNe (dCall φ_is_whole (dCons (dV 9) dNil)) (dV 11))) (dOr (dB (dOp ρNe (dCall φ_is_among (dCons (dV 9) (dCons (dUn ρNeg (dC (.int 2))) (dCons (dC (.int 7)) dNil)))) (dV 11))) (dB (dOp (ρIsB true) (dCall φ_is_among (dCons (dV 9) (dCons (dUn ρNeg (dC (.int 1))) (dCons (dC (.int 6)) dNil)))) (dC (.bool false)))))) (dRet (dC (.bool false)))
  dNext)
  c_law_b3)
def c_law_b5 : DS :=
  (dSeq (dSet 11 (dOp (ρInF false) (dOp ρMod (dV 3) (dC (.int 8))) (dTup (dCons (dC (.int 2)) (dCons (dC (.int 7)) dNil)))))
  c_law_b4)
def c_law_b6 : DS :=
  (dSeq (dIf (dOr (dB (dOp ρNe (dV 10) (dOp ρMul (dLst (dCons (dC .none) dNil)) (dC (.int 4))))) (dOr (dTru (dCall φ_is_word (dCons (dV 9) dNil))) (dOr (dTru (dCall φ_is_hand (dCons (dV 9) dNil))) (dOr (dTru (dCall φ_is_name (dCons (dV 9) dNil))) (dOr (dTru (dCall φ_is_put_line (dCons (dV 9) dNil))) (dTru (dCall φ_is_end (dCons (dV 9) dNil)))))))) (dRet (dC (.bool false)))
  dNext)
  c_law_b5)
def c_law_b7 : DS :=
  (dSeq (dSet 10 (dLst (dCons (dCall φ_number_of (dCons (dV 9) dNil)) (dCons (dCall φ_words_of (dCons (dV 9) dNil)) (dCons (dCall φ_name_of (dCons (dV 9) dNil)) (dCons (dCall φ_line_of (dCons (dV 9) dNil)) dNil))))))
  c_law_b6)
def c_law_b8 : DS :=
  (dSeq (dSet 9 (dOp ρIx (dLstM (dCons (dC .none) (dCons (dC (.bool true)) (dCons (dC (.int 7)) (dCons (dLst dNil) (dCons (dLst (dCons (dC (.str "a")) dNil)) (dCons dNewK (dCons (dTup (dCons (dC (.str "a")) dNil)) (dCons (dUn ρNeg (dC (.int 2))) dNil))))))))) (dOp ρMod (dV 3) (dC (.int 8)))))
  c_law_b7)
def c_law_b9 : DS :=
  (dSeq (dSet 1 (dOp ρAdd (dV 1) (dLst (dCons (dCatR "a" " " "" (dV 5)) dNil))))
  c_law_b8)
def c_law_b10 : DS :=
  (dSeq (dFor (dIn (dOp ρAdd (dV 7) (dLst (dCons (dC (.str "head")) (dCons (dC (.str "none")) dNil))))) (.nm 8)
  c_law_b1)
  c_law_b9)
def c_law_b11 : DS :=
  (dSeq (dSet 7 (dLst (dCons (dV 5) (dCons (dV 6) (dCons (dOp ρAdd (dOp ρAdd (dV 6) (dC (.str "."))) (dCB ρStrI (dCons (dCall φ__law_digit (dCons (dV 4) (dCons (dC (.int 12)) dNil))) dNil))) (dCons (dCB ρStrI (dCons (dCall φ__law_digit (dCons (dV 4) (dCons (dC (.int 10000000)) dNil))) dNil)) dNil))))))
  c_law_b10)
def c_law_b12 : DS :=
  (dSeq (dSet 6 (dOp ρAdd (dOp ρAdd (dOp ρIx (dC (.str "abz")) (dCall φ__law_digit (dCons (dV 4) (dCons (dC (.int 3)) dNil)))) (dC (.str "."))) (dCB ρStrI (dCons (dCall φ__law_digit (dCons (dV 4) (dCons (dC (.int 1200)) dNil))) dNil))))
  c_law_b11)
def c_law_b13 : DS :=
  (dSeq (dSet 5 (dCall φ__law_word (dCons (dV 4) (dCons (dOp ρIx (dLst (dCons (dC (.str "ab.1")) (dCons (dC (.str "a1.0")) (dCons (dC (.str "012345")) (dCons (dC (.str "abcz")) (dCons (dC (.str "A -\n.1")) dNil)))))) (dCall φ__law_digit (dCons (dV 4) (dCons (dC (.int 5)) dNil)))) dNil))))
  c_law_b12)
def c_law_b14 : DS :=
  (dSeq (dSet 4 (dCall φ__law_draw (dCons (dV 3) (dCons (dV 2) dNil))))
  (dSeq (dIf (dNot (dTru (dCall φ__law_things (dCons (dV 4) dNil)))) (dRet (dC (.bool false)))
  dNext)
  c_law_b13))
/-- law: _law_script 0, _law_words 1, _law_k 2, _law_cell 3, _law_state 4, _law_word_here 5, _law_name 6, _law_some 7, _law_one_here 8, _law_odd 9, _law_told 10, _law_due 11, _law_big 12 -/
def c_law : DS :=
  (dSeq (dSet 1 (dLst dNil))
  (dSeq (dFor (dEnum (dCons (dOp ρAdd (dSl (dV 0) dNoP (dPart (dC (.int 63)))) (dLst (dCons (dCB ρSum (dCons (dV 0) dNil)) dNil))) dNil)) (.tp [2, 3])
  c_law_b14)
  (dRet (dAndV (dOp (ρIsN false) (dCall φ_words_of (dCons (dC (.str "")) dNil)) (dC .none)) (dCall φ__law_row (dCons (dV 1) (dCons (dCall φ__law_mixed (dCons (dCB ρSum (dCons (dV 0) dNil)) (dCons (dC (.int 2)) dNil))) dNil)))))))
end K01
set_option Elab.async false
set_option linter.all false
set_option autoImplicit false
set_option maxRecDepth 100000
set_option maxHeartbeats 4000000
namespace K01
open PySem PySem.Spec PyProof.Rows L2 DL
local macro_rules | `(tactic| walk_at "dl") => `(tactic| try dsimp only [dSeq, dSet, dLstM, dOp, dV, dVs_d, dVs_m, dVs_s, dC, dCc, dCB, dCons, dNil, dLst, dTup, dUn, dB, dTru, dAnd, dOr, dNot, dAndV, dOrV, dNotV, dIfE, dIf, dRet, dExpr, dBM, dVF, dIn, dEnum, dZip, dRng1, dRng2, dPar, dAsg, dCall, dNext, dBreak, dYes, dSl, dPart, dNoP, dRev, dSub, dSubs, dIsi, dChain, dSgn, dM1, dCatR, dGet1, dGet2, Tg.set, setAll_c, setAll_0, wipeS, wkD, wkR, ρAdd_int, ρAdd_str, ρAdd_tup, ρSub_int, ρMul_int, ρMod_int, ρDiv_int, ρPow_int, ρLt_int, ρLe_int, ρGt_int, ρGe_int, ρNeg_int, ρIx_lst, ρIx_tup, ρIx_str, ρIx_scr, ρLen_lst, ρLen_tup, ρLen_str, ρLen_scr, ρMax_2, ρMin_2, ρInt_int, ρInt_bool, ρApp_m, ρTru_b, ρTru_n, ρTru_i, ρTru_l, ρTru_t, ρWk_l, ρWk_t, ρWk_s, ρWk_m, ρWk_tt, ρIx_t, ρLen_t, ρTru_tt, dVs_t, dTupT, dEnumS, dZipS, ρSl_t, ρSl_s, ρSl_c, List.cons_append, List.nil_append, List.length_cons, List.length_nil, List.getElem?_cons_succ, List.getElem?_cons_zero, List.set_cons_succ, List.set_cons_zero, List.map])

theorem ret {M : MHp} {s : Sl} {post : DP} (h : post M s) : Ret post M s := ⟨M, Sub.refl M, h⟩
theorem ret' {M M' : MHp} {s : Sl} {post : DP} (e : Sub M M') (h : post M s) : Ret post M' s := ⟨M, e, h⟩
theorem atI_at {α : Type} {xs : List α} {i : Nat} {x : α} (h : xs[i]? = some x) : atI xs (i : Int) = some x := by
  unfold atI ixN
  have hi := (List.getElem?_eq_some_iff.mp h).1
  have : (0 : Int) ≤ i ∧ (i : Int) < xs.length := by omega
  simp [this, h] <;> omega
theorem shaped_int (i : Int) : SeqAt.shaped (.int i) = true := by simp [SeqAt.shaped, PyData.canLay0, PyData.depth]
theorem shaped_bool (i : Bool) : SeqAt.shaped (.bool i) = true := by simp [SeqAt.shaped, PyData.canLay0, PyData.depth]
theorem shaped_non : SeqAt.shaped .none = true := by simp [SeqAt.shaped, PyData.canLay0, PyData.depth]
theorem shaped_str {z : Str} (h : PyData.strOk z = true) : SeqAt.shaped (.str z) = true := by simp [SeqAt.shaped, PyData.canLay0, PyData.depth, h]
theorem eqv_str (x y : Str) : PyData.eqv (.str x) (.str y) = decide (x = y) := by
  show (x == y) = _
  by_cases e : x = y
  · subst e; simp
  · rw [decide_eq_false e]; exact beq_eq_false_iff_ne.mpr e
theorem eqv_int (x y : Int) : PyData.eqv (.int x) (.int y) = decide (x = y) := by
  show (x == y) = _
  by_cases e : x = y
  · subst e; simp
  · rw [decide_eq_false e]; exact beq_eq_false_iff_ne.mpr e
theorem eqv_bool (x y : Bool) : PyData.eqv (.bool x) (.bool y) = (x == y) := rfl
theorem sz {n : Nat} (h : n ≤ 10000000) : n ≤ sizeLine := by rw [sizeLine_eq]; omega
theorem szl {n : Nat} (h : n ≤ 10000000) : n < sizeLine := by rw [sizeLine_eq]; omega
theorem tv {M M' : MHp} {s : Sl} {T : String} {post : DP} (h : tyN M s T) (hp : post M' s) : dVs (some s) M' post := by
  cases s with
  | n => exact h.elim
  | d _ => exact hp
  | m _ => exact hp
  | s _ => exact hp
  | t _ => exact hp
  | c _ => exact hp
  | o _ _ => exact hp
  | f _ => exact hp
/-- what is an int, a truth, a text, a tuple -/
theorem ty_is {M : MHp} {s : Sl} {T : String} (h : tyN M s T) : isT T ["int"] = (wholeD (dOf s) || isT T ["bool"]) ∧ (isT T ["str"] = true ↔ ∃ z, s = .d (.str z)) ∧ (wholeD (dOf s) = true → isT T ["bool"] = false) ∧ (isT T ["tuple"] = true → (∃ ds, s = .d (.tuple ds)) ∨ ∃ us, s = .t us) := by
  unfold tyN at h
  split at h
  · subst h; exact ⟨rfl, ⟨(fun e => by cases e), fun ⟨_, e⟩ => by cases e⟩, fun e => (by cases e), fun e => by cases e⟩
  · subst h; exact ⟨rfl, ⟨(fun e => by cases e), fun ⟨_, e⟩ => by cases e⟩, fun e => (by cases e), fun e => by cases e⟩
  · subst h; exact ⟨rfl, ⟨(fun e => by cases e), fun ⟨_, e⟩ => by cases e⟩, fun e => rfl, fun e => by cases e⟩
  · subst h; exact ⟨rfl, ⟨fun e => ⟨_, rfl⟩, fun _ => rfl⟩, fun e => (by cases e), fun e => by cases e⟩
  · subst h; exact ⟨rfl, ⟨(fun e => by cases e), fun ⟨_, e⟩ => by cases e⟩, fun e => (by cases e), fun e => by cases e⟩
  · subst h; exact ⟨rfl, ⟨(fun e => by cases e), fun ⟨_, e⟩ => by cases e⟩, fun e => (by cases e), fun e => .inl ⟨_, rfl⟩⟩
  · split at h
    · subst h; exact ⟨rfl, ⟨(fun e => by cases e), fun ⟨_, e⟩ => by cases e⟩, fun e => (by cases e), fun e => by cases e⟩
    · subst h; exact ⟨rfl, ⟨(fun e => by cases e), fun ⟨_, e⟩ => by cases e⟩, fun e => (by cases e), fun e => by cases e⟩
    · subst h; exact ⟨rfl, ⟨(fun e => by cases e), fun ⟨_, e⟩ => by cases e⟩, fun e => (by cases e), fun e => by cases e⟩
    · exact h.elim
  · subst h; exact ⟨rfl, ⟨(fun e => by cases e), fun ⟨_, e⟩ => by cases e⟩, fun e => (by cases e), fun e => .inr ⟨_, rfl⟩⟩
  · exact h.elim
theorem does_is_whole : Does 1 φ_is_whole c_is_whole := by
  rintro M ss post ⟨s, T, rfl, hT, hp⟩
  show c_is_whole _ M [s]
  unfold c_is_whole
  walk_at "dl"
  obtain ⟨h1, _, h3, _⟩ := ty_is hT
  refine tv hT ⟨T, hT, _, rfl, ?_⟩
  rw [h1]
  cases hw : wholeD (dOf s) with
  | true =>
    rw [hw] at hp
    refine iteT (tv hT ⟨T, hT, _, rfl, ?_⟩)
    rw [h3 hw]
    exact ret hp
  | false =>
    rw [hw] at hp
    cases hb : isT T ["bool"] with
    | true => 
      refine iteT (tv hT ⟨T, hT, _, rfl, ?_⟩)
      rw [hb]
      exact ret hp
    | false => exact iteF (ret hp)
theorem does_is_among : Does 3 φ_is_among c_is_among := by
  rintro M ss post ⟨s, T, lo, hi, rfl, hT, hp⟩
  show c_is_among _ M [s, .d (.int lo), .d (.int hi)]
  unfold c_is_among
  walk_at "dl"
  refine tv hT ⟨s, T, rfl, hT, _, rfl, ?_⟩
  cases hw : wholeD (dOf s) with
  | false =>
    refine iteF (ret ?_)
    have : amongD (dOf s) lo hi = false := by
      unfold amongD; split
      · rename_i i e; rw [e] at hw; cases hw
      · rfl
    rw [this] at hp; exact hp
  | true =>
    cases s with
    | d x =>
      cases x with
      | int i =>
        refine iteT ?_
        walk_at "dl"
        refine ⟨_, rfl, ?_⟩
        have hp : post M (.d (.bool (decide (lo ≤ i) && decide (i ≤ hi)))) := hp
        by_cases h1 : lo ≤ i
        · rw [decide_eq_true h1] at hp ⊢
          exact iteT (ret (by simpa using hp))
        · rw [decide_eq_false h1] at hp ⊢
          exact iteF (ret (by simpa using hp))
      | _ => cases hw
    | _ => cases hw
theorem range_fm {α β : Type} (xs : List α) (d : α) (F : α → Option β) : (List.range xs.length).filterMap (fun i => F (xs.getD i d)) = xs.filterMap F := by
  induction xs with
  | nil => rfl
  | cons x xs ih =>
    rw [List.length_cons, List.range_succ_eq_map, List.filterMap_cons, List.filterMap_map, List.filterMap_cons]
    have : (List.range xs.length).filterMap ((fun i => F ((x :: xs).getD i d)) ∘ Nat.succ) = (List.range xs.length).filterMap (fun i => F (xs.getD i d)) := rfl
    rw [this, ih]
    rfl
/-- a comprehension over a text's signs -/
theorem lc_sgn {t : Tg} {θ : DTT} {τ τ0 : DT} {vs : List Nat} {M : MHp} {es : List Sl} {post : DP} (z : Str) (F : Nat → Option PyData) (hz : z.length ≤ 1000000) (h0 : ∀ Q : DP, Q M (.d (.str z)) → τ0 M es Q)
    (ht : ∀ c, c ∈ tl z → ∀ Dn acc, M Dn = none → ∀ (A : DP) (B : MHp → Prop), (∀ d, F c = some d → A (mput M Dn (.lst acc)) (.d d)) → (F c = none → B (mput M Dn (.lst acc))) → t.set (.d (.str ⟨#[c]⟩)) (mput M Dn (.lst acc)) (wipeS es vs) fun es2 => θ (mput M Dn (.lst acc)) es2 fun M2 b => if b = true then τ M2 es2 A else B M2)
    (hp : post M (.d (.list ((tl z).filterMap F)))) : dLc finD (dSgn τ0) t θ τ vs M es post := by
  refine lc_pure ⟨(tl z).length, fun i => .d (sgn z i), fun _ => True⟩ (fun i => F ((tl z).getD i 0)) (fun C hC => h0 _ ⟨z, rfl, hC⟩) (by show (tl z).length ≤ _; have : z.length = (tl z).length := TL.len_tl z; omega) (fun _ _ _ => trivial) (fun i hi Dn acc hD A B hA hB => ?_) ?_
  · have hi : i < (tl z).length := hi
    have e : (tl z).getD i 0 ∈ tl z := by rw [List.getD_eq_getElem?_getD, List.getElem?_eq_getElem hi]; exact List.getElem_mem _
    exact ht _ e Dn acc hD A B hA hB
  · show post M (.d (.list ((List.range (tl z).length).filterMap _)))
    rw [range_fm]; exact hp
theorem fm_bool (l : List Nat) (g : Nat → Bool) : l.filterMap (fun c => some (PyData.bool (g c))) = (l.map g).map PyData.bool := by
  rw [List.filterMap_eq_map', List.map_map]; rfl
theorem all_id (l : List Nat) (g : Nat → Bool) : (l.map g).all id = l.all g := by rw [List.all_map]; rfl
theorem Th.slen {M : MHp} {z : Str} (h : Th M (.d (.str z))) : z.length ≤ 1000 ∧ PyData.strOk z = true := h.str z rfl
theorem does_is_word : Does 2 φ_is_word c_is_word := by
  rintro M ss post ⟨s, rfl, hT, hp⟩
  obtain ⟨T, ty⟩ := hT.ty
  show c_is_word _ M [s, .n]
  unfold c_is_word
  obtain ⟨_, h2, _, _⟩ := ty_is ty
  walk_at "dl"
  refine tv ty ⟨T, ty, ?_⟩
  walk_at "dl"
  cases hs : isT T ["str"] with
  | false =>
    refine iteT (iteT (ret ?_))
    have : wordD (dOf s) = false := by
      unfold wordD; split
      · rename_i z e
        cases s with
        | d x => have e : x = .str z := e; subst e; rw [h2.mpr ⟨z, rfl⟩] at hs; cases hs
        | _ => cases e
      · rfl
    rw [this] at hp; exact hp
  | true =>
    obtain ⟨z, rfl⟩ := h2.mp hs
    obtain ⟨hz, hok⟩ := hT.slen
    refine iteF ⟨sz (by omega), _, rfl, ?_⟩
    have hp : post M (.d (.bool (isWord z))) := hp
    unfold isWord at hp
    by_cases g1 : 1 ≤ z.length
    · rw [decide_eq_true g1] at hp
      rw [decide_eq_true (show (1 : Int) ≤ z.length by omega)]
      refine iteT ⟨_, rfl, ?_⟩
      by_cases g2 : z.length ≤ 8
      · rw [decide_eq_true g2] at hp
        rw [decide_eq_true (show (z.length : Int) ≤ 8 by omega)]
        refine iteF ?_
        refine lc_sgn z (fun c => some (.bool (decide (c ∈ letL)))) (by omega) (fun Q hQ => hQ) (fun c hc Dn acc hD A B hA hB => ?_) ?_
        · walk_at "dl"
          exact iteT ⟨c, rfl, hA _ rfl⟩
        · rw [fm_bool]
          refine ⟨_, _, rfl, rfl, ret ?_⟩
          rw [all_id]; simpa using hp
      · rw [decide_eq_false g2] at hp
        rw [decide_eq_false (show ¬ (z.length : Int) ≤ 8 by omega)]
        exact iteT (ret (by simpa using hp))
    · rw [decide_eq_false g1] at hp
      rw [decide_eq_false (show ¬ (1 : Int) ≤ z.length by omega)]
      exact iteF ⟨_, rfl, iteT (ret (by simpa using hp))⟩
theorem does_is_hand : Does 1 φ_is_hand c_is_hand := by
  rintro M ss post ⟨s, rfl, hT, hp⟩
  obtain ⟨T, ty⟩ := hT.ty
  show c_is_hand _ M [s]
  unfold c_is_hand
  walk_at "dl"
  refine tv ty ⟨s, rfl, hT, _, rfl, ?_⟩
  cases hw : wordD (dOf s) with
  | false =>
    refine iteF (ret ?_)
    have : handD (dOf s) = false := by
      unfold handD; split
      · rename_i z e; rw [e] at hw; have hw : isWord z = false := hw; unfold isHand; rw [hw]; rfl
      · rfl
    rw [this] at hp; exact hp
  | true =>
    cases s with
    | d x =>
      cases x with
      | str z =>
        refine iteT ⟨.str z, resv, rfl, rfl, rfl, ret ?_⟩
        have hp : post M (.d (.bool (isWord z && !inF (.str z) resv))) := hp
        rw [show isWord z = true from hw] at hp
        exact hp
      | _ => cases hw
    | _ => cases hw
end K01
set_option Elab.async false
set_option linter.all false
set_option autoImplicit false
set_option maxRecDepth 100000
set_option maxHeartbeats 4000000
namespace K01
open PySem PySem.Spec PyProof.Rows L2 DL
local macro_rules | `(tactic| walk_at "dl") => `(tactic| try dsimp only [dSeq, dSet, dLstM, dOp, dV, dVs_d, dVs_m, dVs_s, dC, dCc, dCB, dCons, dNil, dLst, dTup, dUn, dB, dTru, dAnd, dOr, dNot, dAndV, dOrV, dNotV, dIfE, dIf, dRet, dExpr, dBM, dVF, dIn, dEnum, dZip, dRng1, dRng2, dPar, dAsg, dCall, dNext, dBreak, dYes, dSl, dPart, dNoP, dRev, dSub, dSubs, dIsi, dChain, dSgn, dM1, dCatR, dGet1, dGet2, Tg.set, setAll_c, setAll_0, wipeS, wkD, wkR, ρAdd_int, ρAdd_str, ρAdd_tup, ρSub_int, ρMul_int, ρMod_int, ρDiv_int, ρPow_int, ρLt_int, ρLe_int, ρGt_int, ρGe_int, ρNeg_int, ρIx_lst, ρIx_tup, ρIx_str, ρIx_scr, ρLen_lst, ρLen_tup, ρLen_str, ρLen_scr, ρMax_2, ρMin_2, ρInt_int, ρInt_bool, ρApp_m, ρTru_b, ρTru_n, ρTru_i, ρTru_l, ρTru_t, ρWk_l, ρWk_t, ρWk_s, ρWk_m, ρWk_tt, ρIx_t, ρLen_t, ρTru_tt, dVs_t, dTupT, dEnumS, dZipS, ρSl_t, ρSl_s, ρSl_c, List.cons_append, List.nil_append, List.length_cons, List.length_nil, List.getElem?_cons_succ, List.getElem?_cons_zero, List.set_cons_succ, List.set_cons_zero, List.map])

theorem SmS.th {M : MHp} {x : PyData} (h : SmS x) : Th M (.d x) := by
  obtain ⟨h1, h2⟩ := h
  refine ⟨?_, fun z e => h2 z (by cases e; rfl), (fun ds e => by cases e; cases h1), fun us e => by cases e⟩
  cases x with
  | none => exact ⟨_, rfl⟩
  | bool _ => exact ⟨_, rfl⟩
  | int _ => exact ⟨_, rfl⟩
  | str _ => exact ⟨_, rfl⟩
  | list _ => cases h1
  | tuple _ => cases h1
  | dict _ => cases h1
theorem tyS {M : MHp} {x : PyData} (h : SmS x) : ∃ T, tyN M (.d x) T := h.th.ty
theorem sms_int (i : Int) : SmS (.int i) := ⟨rfl, fun _ e => by cases e⟩
theorem sms_non : SmS .none := ⟨rfl, fun _ e => by cases e⟩
theorem sms_bool (i : Bool) : SmS (.bool i) := ⟨rfl, fun _ e => by cases e⟩
theorem Sx.sms {z : Str} (h : Sx z) : SmS (.str z) := ⟨rfl, fun y e => by cases e; exact ⟨h.len, h.ok⟩⟩
theorem sms_num (z : Str) : SmS (numOf z) := by unfold numOf; split; exact sms_int _; exact sms_non
theorem th_tup {M : MHp} {ds : List PyData} (hl : ds.length ≤ 1000) (h : ∀ d ∈ ds, SmS d) : Th M (.d (.tuple ds)) := ⟨⟨_, rfl⟩, (fun z e => by cases e), (fun es e => by cases e; exact ⟨hl, h⟩), fun us e => by cases e⟩
theorem SmS.shaped {x : PyData} (h : SmS x) : x.canLay0 = true ∧ x.depth = 0 := by
  obtain ⟨h1, h2⟩ := h
  cases x with
  | none => exact ⟨rfl, rfl⟩
  | bool _ => exact ⟨rfl, rfl⟩
  | int _ => exact ⟨rfl, rfl⟩
  | str z => exact ⟨by simp [PyData.canLay0, (h2 z rfl).2], rfl⟩
  | list _ => cases h1
  | tuple _ => cases h1
  | dict _ => cases h1
theorem sms_all : ∀ {ds : List PyData}, (∀ d ∈ ds, SmS d) → PyData.canLayAll0 ds = true ∧ PyData.depthAll ds = 0
  | [], _ => ⟨rfl, rfl⟩
  | d :: ds, h => by
    obtain ⟨h1, h2⟩ := (h d (List.mem_cons_self ..)).shaped
    obtain ⟨h3, h4⟩ := sms_all fun e he => h e (List.mem_cons_of_mem _ he)
    exact ⟨by rw [PyData.canLayAll0, h1, h3]; rfl, by rw [PyData.depthAll, h2, h4]; rfl⟩
theorem shaped_sms {x : PyData} (h : SmS x) : SeqAt.shaped x = true := by
  obtain ⟨h1, h2⟩ := h.shaped
  unfold SeqAt.shaped; rw [h1, h2]; rfl
theorem shaped_tup {ds : List PyData} (h : ∀ d ∈ ds, SmS d) : SeqAt.shaped (.tuple ds) = true := by
  obtain ⟨h1, h2⟩ := sms_all h
  unfold SeqAt.shaped; rw [PyData.canLay0, h1, PyData.depth, h2]; rfl
theorem shaped_lst {ds : List PyData} (h : ∀ d ∈ ds, SmS d) : SeqAt.shaped (.list ds) = true := by
  obtain ⟨h1, h2⟩ := sms_all h
  unfold SeqAt.shaped; rw [PyData.canLay0, h1, PyData.depth, h2]; rfl
/-- a thing that is no tuple -/
theorem no_tup {M : MHp} {s : Sl} {T : String} (ty : tyN M s T) (h : isT T ["tuple"] = false) : ∀ ds, dOf s ≠ .tuple ds := by
  intro ds e
  cases s with
  | d x => have e : x = .tuple ds := e; subst e; have ty : T = "tuple" := ty; subst ty; cases h
  | _ => cases e
theorem nameD_2 {x : PyData} (h : ∀ a b, x ≠ .tuple [a, b]) : nameD x = false := by
  unfold nameD; split
  · exact absurd rfl (h _ _)
  · rfl
theorem putD_3 {x : PyData} (h : ∀ a b c, x ≠ .tuple [a, b, c]) : putD x = false := by
  unfold putD; split
  · exact absurd rfl (h _ _ _)
  · rfl
theorem endD_3 {x : PyData} (h : ∀ a b c, x ≠ .tuple [a, b, c]) : endD x = false := by
  unfold endD; split
  · exact absurd rfl (h _ _ _)
  · rfl
theorem ρNe_d' {M : MHp} {u v : PyData} {post : DP} (h1 : SeqAt.shaped u = true) (h2 : SeqAt.shaped v = true) (h : post M (.d (.bool (!PyData.eqv u v)))) : ρNe (.d u) (.d v) M post := ρNe_d ⟨h1, h2, h⟩
theorem ρEq_d' {M : MHp} {u v : PyData} {post : DP} (h1 : SeqAt.shaped u = true) (h2 : SeqAt.shaped v = true) (h : post M (.d (.bool (PyData.eqv u v)))) : ρEq (.d u) (.d v) M post := ρEq_d ⟨h1, h2, h⟩
theorem ρEq_c {M : MHp} {u v : PyData} {post : DP} (h1 : SeqAt.shaped u = true) (h2 : SeqAt.shaped v = true) (h : post M (.d (.bool (PyData.eqv u v)))) : ρEq (.d u) (.c v) M post := ⟨u, v, rfl, rfl, h1, h2, h⟩
theorem len_ne {n k : Nat} (h : n ≠ k) : (!PyData.eqv (.int (n : Nat)) (.int (k : Nat))) = true := by rw [eqv_int, decide_eq_false (by omega)]; rfl
theorem len_eq (n : Nat) : (!PyData.eqv (.int (n : Nat)) (.int (n : Nat))) = false := by rw [eqv_int, decide_eq_true rfl]; rfl
theorem tup_of {M : MHp} {s : Sl} {T : String} (hT : Th M s) (ty : tyN M s T) (h : isT T ["tuple"] = true) : ∃ ds, s = .d (.tuple ds) := by
  rcases (ty_is ty).2.2.2 h with h | ⟨us, rfl⟩
  · exact h
  · exact absurd rfl (hT.nt us)
theorem does_is_name : Does 1 φ_is_name c_is_name := by
  rintro M ss post ⟨s, rfl, hT, hp⟩
  obtain ⟨T, ty⟩ := hT.ty
  show c_is_name _ M [s]
  unfold c_is_name
  walk_at "dl"
  refine tv ty ⟨T, ty, ?_⟩
  walk_at "dl"
  cases hs : isT T ["tuple"] with
  | false =>
    refine iteT (iteT (ret ?_))
    rw [nameD_2 fun a b => no_tup ty hs _] at hp; exact hp
  | true =>
    obtain ⟨ds, rfl⟩ := tup_of hT ty hs
    obtain ⟨hl, hd⟩ := hT.tup ds rfl
    refine iteF ?_
    walk_at "dl"
    refine ρNe_d' (shaped_int _) (shaped_int _) ⟨_, rfl, ?_⟩
    by_cases h2 : ds.length = 2
    · obtain ⟨a, b, rfl⟩ : ∃ a b, ds = [a, b] := by
        match ds, h2 with
        | [a, b], _ => exact ⟨a, b, rfl⟩
      refine iteF ⟨a, atI_at (i := 0) rfl, .d a, rfl, (hd a (by simp)).th, _, rfl, ?_⟩
      have hp : post M (.d (.bool (handD a && amongD b 1 999))) := hp
      show if handD a = true then _ else _
      cases hh : handD a with
      | false => rw [hh] at hp; exact iteF (ret hp)
      | true =>
        rw [hh] at hp
        obtain ⟨Tb, tb⟩ := tyS (M := M) (hd b (by simp))
        exact iteT ⟨b, atI_at (i := 1) rfl, .d b, Tb, 1, 999, rfl, tb, ret hp⟩
    · have e : (!PyData.eqv (.int (ds.length : Nat)) (.int 2)) = true := len_ne (k := 2) h2
      rw [e]
      refine iteT (ret ?_)
      rw [nameD_2 (x := dOf (.d (.tuple ds))) fun a b e => by cases e; exact h2 rfl] at hp; exact hp
theorem cut2 {a b c : PyData} : cutD [a, b, c] none (some 2) = [a, b] := by
  have : HT.sIx 3 3 (some ((2 : Nat) : Int)) = min 2 3 := HT.sIx_nat 3 3 2
  unfold DL.cutD
  show ([a, b, c].drop (HT.sIx 3 0 none)).take (HT.sIx 3 3 (some ((2 : Nat) : Int)) - HT.sIx 3 0 none) = _
  rw [this]; rfl
theorem cut1 {a b c : PyData} : cutD [a, b, c] (some 1) none = [b, c] := by
  have : HT.sIx 3 0 (some ((1 : Nat) : Int)) = min 1 3 := HT.sIx_nat 3 0 1
  unfold DL.cutD
  show ([a, b, c].drop (HT.sIx 3 0 (some ((1 : Nat) : Int)))).take (HT.sIx 3 3 none - HT.sIx 3 0 (some ((1 : Nat) : Int))) = _
  rw [this]; rfl
theorem posD_w {c : PyData} (h : wholeD c = false) : posD c = false := by cases c <;> first | rfl | cases h
theorem does_is_put_line : Does 1 φ_is_put_line c_is_put_line := by
  rintro M ss post ⟨s, rfl, hT, hp⟩
  obtain ⟨T, ty⟩ := hT.ty
  show c_is_put_line _ M [s]
  unfold c_is_put_line
  walk_at "dl"
  refine tv ty ⟨T, ty, ?_⟩
  walk_at "dl"
  cases hs : isT T ["tuple"] with
  | false =>
    refine iteT (iteT (ret ?_))
    rw [putD_3 fun a b c => no_tup ty hs _] at hp; exact hp
  | true =>
    obtain ⟨ds, rfl⟩ := tup_of hT ty hs
    obtain ⟨hl, hd⟩ := hT.tup ds rfl
    refine iteF ?_
    walk_at "dl"
    refine ρNe_d' (shaped_int _) (shaped_int _) ⟨_, rfl, ?_⟩
    by_cases h2 : ds.length = 3
    · obtain ⟨a, b, c, rfl⟩ : ∃ a b c, ds = [a, b, c] := by
        match ds, h2 with
        | [a, b, c], _ => exact ⟨a, b, c, rfl⟩
      refine iteF ⟨2, rfl, ?_⟩
      rw [cut2]
      refine ⟨.d (.tuple [a, b]), rfl, th_tup (by simp) (fun d h => hd d (by simp at h ⊢; rcases h with h | h <;> simp [h])), _, rfl, ?_⟩
      have hp : post M (.d (.bool (nameD (.tuple [a, b]) && posD c))) := hp
      show if nameD (.tuple [a, b]) = true then _ else _
      cases hh : nameD (.tuple [a, b]) with
      | false => rw [hh] at hp; exact iteF (ret hp)
      | true =>
        rw [hh] at hp
        obtain ⟨Tc, tc⟩ := tyS (M := M) (hd c (by simp))
        refine iteT ⟨c, atI_at (i := 2) rfl, .d c, Tc, rfl, tc, _, rfl, ?_⟩
        show if wholeD c = true then _ else _
        cases hw : wholeD c with
        | false => rw [posD_w hw] at hp; exact iteF (ret hp)
        | true =>
          cases c with
          | int i => exact iteT ⟨.int i, atI_at (i := 2) rfl, ret hp⟩
          | _ => cases hw
    · have e : (!PyData.eqv (.int (ds.length : Nat)) (.int 3)) = true := len_ne (k := 3) h2
      rw [e]
      refine iteT (ret ?_)
      rw [putD_3 (x := dOf (.d (.tuple ds))) fun a b c e => by cases e; exact h2 rfl] at hp; exact hp
theorem shaped_head : SeqAt.shaped headL = true := by decide +kernel
theorem shaped_foot : SeqAt.shaped footL = true := by decide +kernel
theorem does_is_end : Does 2 φ_is_end c_is_end := by
  rintro M ss post ⟨s, rfl, hT, hp⟩
  obtain ⟨T, ty⟩ := hT.ty
  show c_is_end _ M [s, .n]
  unfold c_is_end
  walk_at "dl"
  refine tv ty ⟨T, ty, ?_⟩
  walk_at "dl"
  cases hs : isT T ["tuple"] with
  | false =>
    refine iteT (iteT (ret ?_))
    rw [endD_3 fun a b c => no_tup ty hs _] at hp; exact hp
  | true =>
    obtain ⟨ds, rfl⟩ := tup_of hT ty hs
    obtain ⟨hl, hd⟩ := hT.tup ds rfl
    refine iteF ?_
    walk_at "dl"
    refine ρNe_d' (shaped_int _) (shaped_int _) ⟨_, rfl, ?_⟩
    by_cases h2 : ds.length = 3
    · obtain ⟨a, b, c, rfl⟩ : ∃ a b c, ds = [a, b, c] := by
        match ds, h2 with
        | [a, b, c], _ => exact ⟨a, b, c, rfl⟩
      refine iteF ?_
      refine lc_pure (wkD [b, c]) (fun i => some (.bool (wholeD ([b, c].getD i .none)))) (fun C hC => ?_) (by show 2 ≤ _; decide) (fun _ _ _ => trivial) (fun i hi Dn acc hD A B hA hB => ?_) ?_
      · walk_at "dl"
        refine ⟨1, rfl, ?_⟩
        rw [cut1]; exact hC
      · have hi : i < 2 := hi
        walk_at "dl"
        have hm : [b, c].getD i .none ∈ [a, b, c] := by
          match i, hi with
          | 0, _ => simp
          | 1, _ => simp
        obtain ⟨Tc, tc⟩ := tyS (M := mput M Dn (.lst acc)) (hd _ hm)
        exact iteT ⟨.d ([b, c].getD i .none), Tc, rfl, tc, hA _ rfl⟩
      · refine ⟨_, [wholeD b, wholeD c], rfl, rfl, ?_⟩
        have hp : post M (.d (.bool (wholeD b && wholeD c && (PyData.eqv (.tuple [a, b, c]) headL || PyData.eqv (.tuple [a, b, c]) footL)))) := hp
        have e : ([wholeD b, wholeD c].all id) = (wholeD b && wholeD c) := by simp
        walk_at "dl"
        rw [e]
        cases hw : (wholeD b && wholeD c) with
        | false => rw [hw] at hp; exact iteT (ret hp)
        | true =>
          rw [hw] at hp
          refine iteF (ρEq_c (shaped_tup hd) shaped_head ⟨_, rfl, ?_⟩)
          show if PyData.eqv (.tuple [a, b, c]) headL = true then _ else _
          cases h1 : PyData.eqv (.tuple [a, b, c]) headL with
          | true => rw [h1] at hp; exact iteT (ret (by simpa using hp))
          | false =>
            have hp : post M (.d (.bool (PyData.eqv (.tuple [a, b, c]) footL))) := by rw [h1] at hp; simpa using hp
            exact iteF (ρEq_c (shaped_tup hd) shaped_foot (ret hp))
    · have e : (!PyData.eqv (.int (ds.length : Nat)) (.int 3)) = true := len_ne (k := 3) h2
      rw [e]
      refine iteT (iteT (ret ?_))
      rw [endD_3 (x := dOf (.d (.tuple ds))) fun a b c e => by cases e; exact h2 rfl] at hp; exact hp
end K01
set_option Elab.async false
set_option linter.all false
set_option autoImplicit false
set_option maxRecDepth 100000
set_option maxHeartbeats 4000000
namespace K01
open PySem PySem.Spec PyProof.Rows L2 DL
local macro_rules | `(tactic| walk_at "dl") => `(tactic| try dsimp only [dSeq, dSet, dLstM, dOp, dV, dVs_d, dVs_m, dVs_s, dC, dCc, dCB, dCons, dNil, dLst, dTup, dUn, dB, dTru, dAnd, dOr, dNot, dAndV, dOrV, dNotV, dIfE, dIf, dRet, dExpr, dBM, dVF, dIn, dEnum, dZip, dRng1, dRng2, dPar, dAsg, dCall, dNext, dBreak, dYes, dSl, dPart, dNoP, dRev, dSub, dSubs, dIsi, dChain, dSgn, dM1, dCatR, dGet1, dGet2, Tg.set, setAll_c, setAll_0, wipeS, wkD, wkR, ρAdd_int, ρAdd_str, ρAdd_tup, ρSub_int, ρMul_int, ρMod_int, ρDiv_int, ρPow_int, ρLt_int, ρLe_int, ρGt_int, ρGe_int, ρNeg_int, ρIx_lst, ρIx_tup, ρIx_str, ρIx_scr, ρLen_lst, ρLen_tup, ρLen_str, ρLen_scr, ρMax_2, ρMin_2, ρInt_int, ρInt_bool, ρApp_m, ρTru_b, ρTru_n, ρTru_i, ρTru_l, ρTru_t, ρWk_l, ρWk_t, ρWk_s, ρWk_m, ρWk_tt, ρIx_t, ρLen_t, ρTru_tt, dVs_t, dTupT, dEnumS, dZipS, ρSl_t, ρSl_s, ρSl_c, List.cons_append, List.nil_append, List.length_cons, List.length_nil, List.getElem?_cons_succ, List.getElem?_cons_zero, List.set_cons_succ, List.set_cons_zero, List.map])

theorem figL_eq : figL = [48, 49, 50, 51, 52, 53, 54, 55, 56, 57] := by decide +kernel
theorem mem_fig {c : Nat} : c ∈ figL ↔ 48 ≤ c ∧ c ≤ 57 := by rw [figL_eq]; simp; omega
theorem tl_len (z : Str) : z.length = (tl z).length := TL.len_tl z
theorem one_eq {c d : Nat} : ((⟨#[c]⟩ : Str) = ⟨#[d]⟩) ↔ c = d := by
  constructor
  · intro e; have := congrArg tl e; simpa [tl] using this
  · intro e; rw [e]
theorem tl_0 : ("0" : Str) = ⟨#[48]⟩ := by decide +kernel
theorem num_all {z : Str} (h : isNum z = true) : 1 ≤ z.length ∧ z.length ≤ 6 ∧ NumText.AllDigits (tl z) ∧ tl z ≠ [] ∧ (tl z).getD 0 0 ≠ 48 := by
  unfold isNum at h
  simp only [Bool.and_eq_true, decide_eq_true_eq, List.all_eq_true, Bool.not_eq_true', decide_eq_false_iff_not] at h
  obtain ⟨⟨⟨h1, h2⟩, h3⟩, h4⟩ := h
  refine ⟨h1, h2, fun c hc => mem_fig.mp (h3 c hc), fun e => ?_, h4⟩
  rw [tl_len, e] at h1; simp at h1
theorem int_of {z : Str} (h : isNum z = true) : PySem.intText? z = some ((NumText.digitsVal (tl z) : Nat) : Int) := by
  obtain ⟨h1, h2, h3, h4, _⟩ := num_all h
  exact intText_digits h3 h4 (by omega)
theorem strOk_mem {z : Str} (h : PyData.strOk z = true) {c : Nat} (hc : c ∈ tl z) : c < 0x110000 := by
  unfold PyData.strOk at h
  rw [← Array.all_toList, List.all_eq_true] at h
  simpa using h c hc
theorem strOk_of {z : Str} (h : ∀ c ∈ tl z, c < 0x110000) : PyData.strOk z = true := by
  unfold PyData.strOk
  rw [← Array.all_toList, List.all_eq_true]
  intro c hc; simpa using h c hc
theorem strOk_1 {c : Nat} (h : c < 0x110000) : PyData.strOk ⟨#[c]⟩ = true := strOk_of fun d hd => by
  have e : d = c := by simpa [tl] using hd
  omega
theorem does_number_of : Does 2 φ_number_of c_number_of := by
  rintro M ss post ⟨s, rfl, hT, hp⟩
  obtain ⟨T, ty⟩ := hT.ty
  show c_number_of _ M [s, .n]
  unfold c_number_of
  obtain ⟨_, h2, _, _⟩ := ty_is ty
  walk_at "dl"
  refine tv ty ⟨T, ty, ?_⟩
  walk_at "dl"
  cases hs : isT T ["str"] with
  | false =>
    refine iteT (iteT (ret ?_))
    have : numD (dOf s) = .none := by
      unfold numD; split
      · rename_i z e
        cases s with
        | d x => have e : x = .str z := e; subst e; rw [h2.mpr ⟨z, rfl⟩] at hs; cases hs
        | _ => cases e
      · rfl
    rw [this] at hp; exact hp
  | true =>
    obtain ⟨z, rfl⟩ := h2.mp hs
    obtain ⟨hz, hok⟩ := hT.slen
    have hp : post M (.d (numOf z)) := hp
    have none : isNum z = false → post M (.d .none) := fun e => by unfold numOf at hp; rw [if_neg (by rw [e]; exact Bool.false_ne_true)] at hp; exact hp
    refine iteF ⟨sz (by omega), _, rfl, ?_⟩
    by_cases g1 : 1 ≤ z.length
    · rw [decide_eq_true (show (1 : Int) ≤ z.length by omega)]
      refine iteT ⟨_, rfl, ?_⟩
      by_cases g2 : z.length ≤ 6
      · rw [decide_eq_true (show (z.length : Int) ≤ 6 by omega)]
        refine iteF ?_
        refine lc_sgn z (fun c => some (.bool (decide (c ∈ figL)))) (by omega) (fun Q hQ => hQ) (fun c hc Dn acc hD A B hA hB => ?_) ?_
        · walk_at "dl"
          exact iteT ⟨c, rfl, hA _ rfl⟩
        · rw [fm_bool]
          refine ⟨_, _, rfl, rfl, ?_⟩
          rw [all_id]
          walk_at "dl"
          cases hall : (tl z).all fun c => decide (c ∈ figL) with
          | false => exact iteT (iteT (ret (none (by unfold isNum; rw [hall]; simp))))
          | true =>
            obtain ⟨c, r, hcr⟩ : ∃ c r, tl z = c :: r := by
              cases e : tl z with
              | nil => rw [tl_len, e] at g1; simp at g1
              | cons c r => exact ⟨c, r, rfl⟩
            refine iteF ⟨sz (by omega), c, atI_at (i := 0) (by show (tl z)[0]? = _; rw [hcr]; rfl), ?_⟩
            have hc : c < 0x110000 := strOk_mem hok (by rw [hcr]; simp)
            refine ρEq_d' (shaped_str (strOk_1 hc)) (shaped_str (by decide +kernel)) ⟨_, rfl, ?_⟩
            rw [eqv_str, tl_0]
            have e0 : (tl z).getD 0 0 = c := by rw [hcr]; rfl
            by_cases h0 : c = 48
            · rw [decide_eq_true (one_eq.mpr h0)]
              exact iteT (ret (none (by unfold isNum; rw [e0, h0]; simp)))
            · rw [decide_eq_false (fun e => h0 (one_eq.mp e))]
              refine iteF ?_
              have hn : isNum z = true := by unfold isNum; rw [hall, e0, decide_eq_true g1, decide_eq_true g2, decide_eq_false h0]; rfl
              refine ⟨_, int_of hn, by omega, ret ?_⟩
              unfold numOf at hp; rw [if_pos hn] at hp; exact hp
      · rw [decide_eq_false (show ¬ (z.length : Int) ≤ 6 by omega)]
        exact iteT (ret (none (by unfold isNum; rw [decide_eq_false g2]; simp)))
    · rw [decide_eq_false (show ¬ (1 : Int) ≤ z.length by omega)]
      exact iteF ⟨_, rfl, iteT (ret (none (by unfold isNum; rw [decide_eq_false g1]; simp)))⟩
theorem log_of {n : Int} (h : n.natAbs < 10 ^ 9) : n.natAbs.log2 < 1920 := Nat.lt_of_lt_of_le (PySem.Flt.log2_lt_of (k := 30) (by decide) (Nat.lt_of_lt_of_le h (by decide))) (by decide)
theorem tl_app (x y : Str) : tl (x ++ y) = tl x ++ tl y := TL.tl_append x y
theorem len_app (x y : Str) : (x ++ y).length = x.length + y.length := by rw [tl_len, tl_app, List.length_append, ← tl_len, ← tl_len]
theorem num_len {n : Nat} (h : n < 10 ^ 9) : (strI n).length ≤ 9 := by
  have e : tl (strI n) = TL.numL n := TL.tl_num n
  rw [tl_len, e]; exact TL.numL_len (by decide) h
theorem strI_len {n : Int} (h : n.natAbs < 10 ^ 9) : (strI n).length ≤ 20 := by
  by_cases h0 : 0 ≤ n
  · obtain ⟨k, rfl⟩ := Int.eq_ofNat_of_zero_le h0
    have := num_len (n := k) (by omega)
    omega
  · obtain ⟨k, hk⟩ : ∃ k : Nat, n = Int.negSucc k := by
      cases n with
      | ofNat k => exact absurd (Int.natCast_nonneg k) h0
      | negSucc k => exact ⟨k, rfl⟩
    subst hk
    have e : strI (Int.negSucc k) = Str.ofString ("-" ++ toString (k + 1)) := rfl
    have e2 : tl (Str.ofString ("-" ++ toString (k + 1))) = ("-" ++ toString (k + 1)).toList.map Char.toNat := TL.tl_ofString _
    have e3 : tl (strI ((k + 1 : Nat) : Int)) = (toString (k + 1)).toList.map Char.toNat := TL.tl_ofString _
    have := num_len (n := k + 1) (by simpa using h)
    rw [tl_len, e3, List.length_map] at this
    rw [tl_len, e, e2, List.length_map, String.toList_append, List.length_append]
    show 1 + _ ≤ 20
    omega
theorem does_name_text : Does 1 φ_name_text c_name_text := by
  rintro M ss post ⟨a, b, rfl, ha, hb, hp⟩
  show c_name_text _ M [.d (.tuple [.str a, .int b])]
  unfold c_name_text
  walk_at "dl"
  have hs := strI_len hb
  refine ⟨_, atI_at (i := 0) rfl, ?_⟩
  walk_at "dl"
  have l1 : ("." : Str).length = 1 := by decide +kernel
  refine ⟨sz (by omega), _, atI_at (i := 1) rfl, b, rfl, log_of hb, ?_⟩
  show _ ∧ _
  refine ⟨sz (by rw [len_app, l1]; show a.length + 1 + (strI b).length ≤ _; omega), ret hp⟩
end K01
set_option Elab.async false
set_option linter.all false
set_option autoImplicit false
set_option maxRecDepth 100000
set_option maxHeartbeats 4000000
namespace K01
open PySem PySem.Spec PyProof.Rows L2 DL
local macro_rules | `(tactic| walk_at "dl") => `(tactic| try dsimp only [dSeq, dSet, dLstM, dOp, dV, dVs_d, dVs_m, dVs_s, dC, dCc, dCB, dCons, dNil, dLst, dTup, dUn, dB, dTru, dAnd, dOr, dNot, dAndV, dOrV, dNotV, dIfE, dIf, dRet, dExpr, dBM, dVF, dIn, dEnum, dZip, dRng1, dRng2, dPar, dAsg, dCall, dNext, dBreak, dYes, dSl, dPart, dNoP, dRev, dSub, dSubs, dIsi, dChain, dSgn, dM1, dCatR, dGet1, dGet2, Tg.set, setAll_c, setAll_0, wipeS, wkD, wkR, ρAdd_int, ρAdd_str, ρAdd_tup, ρSub_int, ρMul_int, ρMod_int, ρDiv_int, ρPow_int, ρLt_int, ρLe_int, ρGt_int, ρGe_int, ρNeg_int, ρIx_lst, ρIx_tup, ρIx_str, ρIx_scr, ρLen_lst, ρLen_tup, ρLen_str, ρLen_scr, ρMax_2, ρMin_2, ρInt_int, ρInt_bool, ρApp_m, ρTru_b, ρTru_n, ρTru_i, ρTru_l, ρTru_t, ρWk_l, ρWk_t, ρWk_s, ρWk_m, ρWk_tt, ρIx_t, ρLen_t, ρTru_tt, dVs_t, dTupT, dEnumS, dZipS, ρSl_t, ρSl_s, ρSl_c, List.cons_append, List.nil_append, List.length_cons, List.length_nil, List.getElem?_cons_succ, List.getElem?_cons_zero, List.set_cons_succ, List.set_cons_zero, List.map])

theorem ρEqc {M : MHp} {u v : PyData} {post : DP} (h1 : SeqAt.shaped u = true) (h2 : SeqAt.shaped v = true) (h : post M (.d (.bool (PyData.eqv u v)))) : ρEq (.d u) (.c v) M post := ⟨u, v, rfl, rfl, h1, h2, h⟩
theorem l1 : ("." : Str).length = 1 := by decide +kernel
theorem does_line_text : Does 1 φ_line_text c_line_text := by
  rintro M ss post ⟨a, b, c, rfl, ha, hok, hb, hc, hp⟩
  show c_line_text _ M [.d (.tuple [.str a, .int b, .int c])]
  unfold c_line_text
  have hs : SeqAt.shaped (.tuple [.str a, .int b, .int c]) = true := shaped_tup fun d h => by
    simp at h
    rcases h with rfl | rfl | rfl
    · exact (Sx.mk ha hok).sms
    · exact sms_int _
    · exact sms_int _
  have hsb := strI_len hb
  have hsc := strI_len hc
  walk_at "dl"
  refine ρEqc hs shaped_head ⟨_, rfl, ?_⟩
  unfold lineTD at hp
  show if PyData.eqv (.tuple [.str a, .int b, .int c]) headL = true then _ else _
  cases h1 : PyData.eqv (.tuple [.str a, .int b, .int c]) headL with
  | true => rw [h1, if_pos rfl] at hp; exact iteT (ret hp)
  | false =>
    rw [h1, if_neg Bool.false_ne_true] at hp
    refine iteF (ρEqc hs shaped_foot ⟨_, rfl, ?_⟩)
    show if PyData.eqv (.tuple [.str a, .int b, .int c]) footL = true then _ else _
    cases h2 : PyData.eqv (.tuple [.str a, .int b, .int c]) footL with
    | true => rw [h2, if_pos rfl] at hp; exact iteT (ret hp)
    | false =>
      rw [h2, if_neg Bool.false_ne_true] at hp
      refine iteF ⟨_, atI_at (i := 0) rfl, ?_⟩
      walk_at "dl"
      refine ⟨sz (by have := l1; omega), _, atI_at (i := 1) rfl, b, rfl, log_of hb, ?_⟩
      refine ⟨sz (by rw [len_app, l1]; show a.length + 1 + (strI b).length ≤ _; omega), ?_⟩
      walk_at "dl"
      refine ⟨sz (by rw [len_app, len_app, l1]; show a.length + 1 + (strI b).length + 1 ≤ _; omega), _, atI_at (i := 2) rfl, c, rfl, log_of hc, ?_⟩
      refine ⟨sz (by rw [len_app, len_app, len_app, l1]; show a.length + 1 + (strI b).length + 1 + (strI c).length ≤ _; omega), ret hp⟩
/-- the parts of a text are short -/
theorem spl_sub : ∀ (S l : List Nat) (k : Nat) (acc : List Nat), ∀ p ∈ TL.spl S k acc l, p.length ≤ acc.length + l.length ∧ ∀ c ∈ p, c ∈ acc ∨ c ∈ l
  | S, [], k, acc, p, h => by
    rw [TL.spl_nil] at h
    have : p = acc := by simpa using h
    subst this
    exact ⟨by simp, fun c hc => .inl hc⟩
  | S, c :: r, 0, acc, p, h => by
    by_cases e : TL.pre S (c :: r) = true
    · rw [TL.spl_hit e] at h
      rcases List.mem_cons.mp h with rfl | h
      · exact ⟨by simp, fun c hc => .inl hc⟩
      · obtain ⟨h1, h2⟩ := spl_sub S r _ [] p h
        exact ⟨by simp at h1 ⊢; omega, fun d hd => .inr (by rcases h2 d hd with q | q; exact (by cases q); exact List.mem_cons_of_mem _ q)⟩
    · rw [TL.spl_miss (by simpa using e)] at h
      obtain ⟨h1, h2⟩ := spl_sub S r 0 (acc ++ [c]) p h
      refine ⟨by simp at h1 ⊢; omega, fun d hd => ?_⟩
      rcases h2 d hd with q | q
      · rcases List.mem_append.mp q with q | q
        · exact .inl q
        · exact .inr (by have : d = c := by simpa using q
                         subst this; exact List.mem_cons_self ..)
      · exact .inr (List.mem_cons_of_mem _ q)
  | S, c :: r, k + 1, acc, p, h => by
    obtain ⟨h1, h2⟩ := spl_sub S r k acc p h
    exact ⟨by simp; omega, fun d hd => by rcases h2 d hd with q | q; exact .inl q; exact .inr (List.mem_cons_of_mem _ q)⟩
theorem tl_pt : tl "." = [46] := by decide +kernel
theorem tl_bl : tl " " = [32] := by decide +kernel
theorem split_tl (z : Str) {y : Str} {c : Nat} (hy : tl y = [c]) (hc : y.cps.all (· < 256) = true) : (Txt.split z y).map tl = TL.spl [c] 0 [] (tl z) := by
  have := TL.split_spl z y (by rw [show TL.tl y = [c] from hy]; simp) (TL.kind_ok hc)
  rw [show TL.tl y = [c] from hy] at this
  exact this
theorem split_sub {z y p : Str} {c : Nat} (hy : tl y = [c]) (hc : y.cps.all (· < 256) = true) (h : p ∈ Txt.split z y) : p.length ≤ z.length ∧ ∀ d ∈ tl p, d ∈ tl z := by
  have hm : tl p ∈ TL.spl [c] 0 [] (tl z) := by rw [← split_tl z hy hc]; exact List.mem_map_of_mem h
  obtain ⟨h1, h2⟩ := spl_sub _ _ _ _ _ hm
  rw [tl_len, tl_len z]
  exact ⟨by simpa using h1, fun d hd => by rcases h2 d hd with q | q; cases q; exact q⟩
theorem pts_sx {z p : Str} (h : Sx z) (hp : p ∈ pts z) : Sx p := by
  obtain ⟨h1, h2⟩ := split_sub (c := 46) (by decide +kernel) (by decide +kernel) hp
  exact ⟨Nat.le_trans h1 h.len, strOk_of fun c hc => strOk_mem h.ok (h2 c hc)⟩
theorem is_str {M : MHp} {s : Sl} {T : String} (ty : tyN M s T) (h : isT T ["str"] = false) : ∀ z, dOf s ≠ .str z := fun z e => by
  cases s with
  | d x => have e : x = .str z := e; subst e; rw [(ty_is ty).2.1.mpr ⟨z, rfl⟩] at h; cases h
  | _ => cases e
theorem nameOfD_n {x : PyData} (h : ∀ z, x ≠ .str z) : nameOfD x = .none := by
  unfold nameOfD; split
  · exact absurd rfl (h _)
  · rfl
theorem lineOfS_n {x : PyData} (h : ∀ z, x ≠ .str z) : lineOfS x = .d .none := by
  unfold lineOfS; split
  · exact absurd rfl (h _)
  · rfl
theorem lineOfS_str (z : Str) : lineOfS (.str z) = if z = "head" then .c headL else if z = "foot" then .c footL else .d (lineOf z) := rfl
theorem nameOf_n {z : Str} (h : (pts z).length ≠ 2) : nameOf z = .none := by
  unfold nameOf; split
  · rename_i e; rw [e] at h; exact absurd rfl h
  · rfl
theorem lineOf_n {z : Str} (h : (pts z).length ≠ 3) : lineOf z = .none := by
  unfold lineOf; split
  · rename_i e; rw [e] at h; exact absurd rfl h
  · rfl
theorem does_name_of : Does 3 φ_name_of c_name_of := by
  rintro M ss post ⟨s, rfl, hT, hp⟩
  obtain ⟨T, ty⟩ := hT.ty
  show c_name_of _ M [s, .n, .n]
  unfold c_name_of
  walk_at "dl"
  refine tv ty ⟨T, ty, ?_⟩
  walk_at "dl"
  cases hs : isT T ["str"] with
  | false =>
    rw [nameOfD_n (is_str ty hs)] at hp
    refine iteF ⟨[], rfl, sz (by simp), ?_⟩
    walk_at "dl"
    exact ρNe_d' (shaped_int _) (shaped_int _) ⟨_, rfl, iteT (ret hp)⟩
  | true =>
    obtain ⟨z, rfl⟩ := (ty_is ty).2.1.mp hs
    obtain ⟨hz, hok⟩ := hT.slen
    have hp : post M (.d (nameOf z)) := hp
    refine iteT ⟨⟨z, rfl⟩, z, ".", rfl, rfl, by decide +kernel, sz (by omega), iteF ?_⟩
    walk_at "dl"
    refine ρNe_d' (shaped_int _) (shaped_int _) ⟨_, rfl, ?_⟩
    rw [List.length_map]
    show if (!PyData.eqv (.int ((pts z).length : Nat)) (.int (2 : Nat))) = true then _ else _
    by_cases h2 : (pts z).length = 2
    · obtain ⟨a, b, e⟩ : ∃ a b, pts z = [a, b] := by
        match pts z, h2 with
        | [a, b], _ => exact ⟨a, b, rfl⟩
      have sa : Sx a := pts_sx ⟨hz, hok⟩ (by rw [e]; simp)
      have sb : Sx b := pts_sx ⟨hz, hok⟩ (by rw [e]; simp)
      rw [h2, len_eq]
      refine iteF ?_
      rw [show Txt.split z "." = [a, b] from e]
      refine ⟨.str a, atI_at (i := 0) rfl, ?_⟩
      walk_at "dl"
      refine ⟨.str b, atI_at (i := 1) rfl, .d (.str b), rfl, sb.sms.th, ?_⟩
      refine ⟨[.str a, numOf b], rfl, sz (by simp), ?_⟩
      unfold nameOf at hp
      rw [e] at hp
      refine ⟨.d (.tuple [.str a, numOf b]), rfl, th_tup (by simp) (fun d h => ?_), ?_⟩
      · simp at h
        rcases h with rfl | rfl
        · exact sa.sms
        · exact sms_num b
      · walk_at "dl"
        show if nameD (.tuple [.str a, numOf b]) = true then _ else _
        cases hh : nameD (.tuple [.str a, numOf b]) with
        | true =>
          have hp : post M (.d (.tuple [.str a, numOf b])) := by simpa [hh] using hp
          exact iteT (ret hp)
        | false =>
          have hp : post M (.d .none) := by simpa [hh] using hp
          exact iteF (ret hp)
    · rw [len_ne h2]
      refine iteT (ret ?_)
      rw [nameOf_n h2] at hp; exact hp
theorem Odd.eqX {M : MHp} {s : Sl} (h : Odd M s) {z : Str} (hz : PyData.strOk z = true) {post : DP} (hp : (dOf s = .str z → post M (.d (.bool true))) ∧ (dOf s ≠ .str z → post M (.d (.bool false)))) : ρEqX s (.d (.str z)) M post := by
  rcases h.2 with ⟨x, rfl, hx⟩ | ⟨a, kvs, rfl, hM⟩
  · refine .inl (ρEq_d' hx (shaped_str hz) ?_)
    cases x with
    | str y =>
      rw [eqv_str]
      by_cases e : y = z
      · rw [decide_eq_true e]; exact hp.1 (by rw [e]; rfl)
      · rw [decide_eq_false e]; exact hp.2 (fun q => e (by have q : PyData.str y = .str z := q; cases q; rfl))
    | none => exact hp.2 (fun q => by cases q)
    | bool b => exact hp.2 (fun q => by cases q)
    | int b => exact hp.2 (fun q => by cases q)
    | list b => exact hp.2 (fun q => by cases q)
    | tuple b => exact hp.2 (fun q => by cases q)
    | dict b => exact hp.2 (fun q => by cases q)
  · exact .inr ⟨a, kvs, z, rfl, hM, rfl, hp.2 (fun q => by cases q)⟩
theorem does_line_of : Does 3 φ_line_of c_line_of := by
  rintro M ss post ⟨s, rfl, hO, hp⟩
  obtain ⟨T, ty⟩ := hO.1.ty
  show c_line_of _ M [s, .n, .n]
  unfold c_line_of
  walk_at "dl"
  refine tv ty (hO.eqX (by decide +kernel) ⟨fun e => ⟨_, rfl, iteT (ret ?_)⟩, fun ne1 => ⟨_, rfl, iteF (tv ty (hO.eqX (by decide +kernel) ⟨fun e => ⟨_, rfl, iteT (ret ?_)⟩, fun ne2 => ⟨_, rfl, iteF ?_⟩⟩))⟩⟩)
  · rw [e] at hp
    have q : lineOfS (.str "head") = .c headL := by rw [lineOfS_str, if_pos rfl]
    rw [q] at hp; exact hp
  · rw [e] at hp
    have q : lineOfS (.str "foot") = .c footL := by rw [lineOfS_str, if_neg (by decide +kernel), if_pos rfl]
    rw [q] at hp; exact hp
  refine tv ty ⟨T, ty, ?_⟩
  walk_at "dl"
  cases hs : isT T ["str"] with
  | false =>
    rw [lineOfS_n (is_str ty hs)] at hp
    refine iteF ⟨[], rfl, sz (by simp), ?_⟩
    walk_at "dl"
    exact ρNe_d' (shaped_int _) (shaped_int _) ⟨_, rfl, iteT (ret hp)⟩
  | true =>
    obtain ⟨z, rfl⟩ := (ty_is ty).2.1.mp hs
    obtain ⟨hz, hok⟩ := hO.1.slen
    have n1 : ¬ z = "head" := fun e => ne1 (by rw [e]; rfl)
    have n2 : ¬ z = "foot" := fun e => ne2 (by rw [e]; rfl)
    have hp : post M (if z = "head" then .c headL else if z = "foot" then .c footL else .d (lineOf z)) := hp
    rw [if_neg n1, if_neg n2] at hp
    refine iteT ⟨⟨z, rfl⟩, z, ".", rfl, rfl, by decide +kernel, sz (by omega), iteF ?_⟩
    walk_at "dl"
    refine ρNe_d' (shaped_int _) (shaped_int _) ⟨_, rfl, ?_⟩
    rw [List.length_map]
    show if (!PyData.eqv (.int ((pts z).length : Nat)) (.int (3 : Nat))) = true then _ else _
    by_cases h2 : (pts z).length = 3
    · obtain ⟨a, b, c, e⟩ : ∃ a b c, pts z = [a, b, c] := by
        match pts z, h2 with
        | [a, b, c], _ => exact ⟨a, b, c, rfl⟩
      have sa : Sx a := pts_sx ⟨hz, hok⟩ (by rw [e]; simp)
      have sb : Sx b := pts_sx ⟨hz, hok⟩ (by rw [e]; simp)
      have sc : Sx c := pts_sx ⟨hz, hok⟩ (by rw [e]; simp)
      rw [h2, len_eq]
      refine iteF ?_
      rw [show Txt.split z "." = [a, b, c] from e]
      refine ⟨.str a, atI_at (i := 0) rfl, ?_⟩
      walk_at "dl"
      refine ⟨.str b, atI_at (i := 1) rfl, .d (.str b), rfl, sb.sms.th, ?_⟩
      walk_at "dl"
      refine ⟨.str c, atI_at (i := 2) rfl, .d (.str c), rfl, sc.sms.th, ?_⟩
      refine ⟨[.str a, numOf b, numOf c], rfl, sz (by simp), ?_⟩
      unfold lineOf at hp
      rw [e] at hp
      refine ⟨.d (.tuple [.str a, numOf b, numOf c]), rfl, th_tup (by simp) (fun d h => ?_), ?_⟩
      · simp at h
        rcases h with rfl | rfl | rfl
        · exact sa.sms
        · exact sms_num b
        · exact sms_num c
      · walk_at "dl"
        show if putD (.tuple [.str a, numOf b, numOf c]) = true then _ else _
        cases hh : putD (.tuple [.str a, numOf b, numOf c]) with
        | true =>
          have hp : post M (.d (.tuple [.str a, numOf b, numOf c])) := by simpa [hh] using hp
          exact iteT (ret hp)
        | false =>
          have hp : post M (.d .none) := by simpa [hh] using hp
          exact iteF (ret hp)
    · rw [len_ne h2]
      refine iteT (ret ?_)
      rw [lineOf_n h2] at hp; exact hp
theorem all_scal (l : List Str) : (l.map PyData.str).all scal = true := by
  rw [List.all_map, List.all_eq_true]; exact fun _ _ => rfl
theorem does_words_of : Does 2 φ_words_of c_words_of := by
  rintro M ss post ⟨s, rfl, ⟨T, ty⟩, h⟩
  show c_words_of _ M [s, .n]
  unfold c_words_of
  walk_at "dl"
  refine tv ty ⟨T, ty, ?_⟩
  walk_at "dl"
  rcases h with ⟨hn, hp⟩ | ⟨z, rfl, hz, h1, h2⟩
  · cases hs : isT T ["str"] with
    | false => exact iteT (ret hp)
    | true => obtain ⟨z, rfl⟩ := (ty_is ty).2.1.mp hs; exact absurd rfl (hn z)
  · rw [(ty_is ty).2.1.mpr ⟨z, rfl⟩]
    refine iteF ⟨⟨z, rfl⟩, z, " ", rfl, rfl, by decide +kernel, sz (by omega), iteT fun p hp => ?_⟩
    walk_at "dl"
    refine ⟨.str "", (wds z).map PyData.str, rfl, mput_same, all_scal _, _, rfl, ?_⟩
    show if inF (.str "") ((wds z).map PyData.str) = true then _ else _
    unfold wordsOk at h1 h2
    cases hh : inF (.str "") ((wds z).map PyData.str) with
    | true => exact iteT (ret' (Sub.put (Sub.refl M) hp) (h1 (by rw [hh]; rfl)))
    | false => exact iteF (ret (h2 (by rw [hh]; rfl) p hp))
end K01
set_option Elab.async false
set_option linter.all false
set_option autoImplicit false
set_option maxRecDepth 100000
set_option maxHeartbeats 4000000
namespace K01
open PySem PySem.Spec PyProof.Rows L2 DL
local macro_rules | `(tactic| walk_at "dl") => `(tactic| try dsimp only [dSeq, dSet, dLstM, dOp, dV, dVs_d, dVs_m, dVs_s, dC, dCc, dCB, dCons, dNil, dLst, dTup, dUn, dB, dTru, dAnd, dOr, dNot, dAndV, dOrV, dNotV, dIfE, dIf, dRet, dExpr, dBM, dVF, dIn, dEnum, dZip, dRng1, dRng2, dPar, dAsg, dCall, dNext, dBreak, dYes, dSl, dPart, dNoP, dRev, dSub, dSubs, dIsi, dChain, dSgn, dM1, dCatR, dGet1, dGet2, Tg.set, setAll_c, setAll_0, wipeS, wkD, wkR, ρAdd_int, ρAdd_str, ρAdd_tup, ρSub_int, ρMul_int, ρMod_int, ρDiv_int, ρPow_int, ρLt_int, ρLe_int, ρGt_int, ρGe_int, ρNeg_int, ρIx_lst, ρIx_tup, ρIx_str, ρIx_scr, ρLen_lst, ρLen_tup, ρLen_str, ρLen_scr, ρMax_2, ρMin_2, ρInt_int, ρInt_bool, ρApp_m, ρTru_b, ρTru_n, ρTru_i, ρTru_l, ρTru_t, ρWk_l, ρWk_t, ρWk_s, ρWk_m, ρWk_tt, ρIx_t, ρLen_t, ρTru_tt, dVs_t, dTupT, dEnumS, dZipS, ρSl_t, ρSl_s, ρSl_c, List.cons_append, List.nil_append, List.length_cons, List.length_nil, List.getElem?_cons_succ, List.getElem?_cons_zero, List.set_cons_succ, List.set_cons_zero, List.map])

theorem klm : ¬ (("left" : Str) = "more") := by decide +kernel
theorem kk {x y : Str} (h : ¬ x = y) : ¬ ((Sum.inr x : Key) = Sum.inr y) := fun e => h (Sum.inr.inj e)
theorem emod_lt {a b : Int} (h : 0 < b) : 0 ≤ a % b ∧ a % b < b := ⟨Int.emod_nonneg _ (by omega), Int.emod_lt_of_pos _ h⟩
theorem does__law_mixed : Does 2 φ__law_mixed c__law_mixed := by
  rintro M ss post ⟨c, k, rfl, k0, k1, hp⟩
  show c__law_mixed _ M [.d (.int c), .d (.int k)]
  unfold c__law_mixed
  walk_at "dl"
  have h1 := emod_lt (a := c) (b := 1000000007) (by decide)
  refine ⟨by decide, .inl ⟨by decide, by decide⟩, ?_⟩
  generalize c % 1000000007 = x at h1 ⊢
  refine ⟨.inl ⟨by omega, by omega⟩, by decide, ?_⟩
  generalize hy : (x + 7919 * k + 13) * (x + 7919 * k + 13) % 1000000007 = y
  have h2 : 0 ≤ y ∧ y < 1000000007 := by rw [← hy]; exact emod_lt (by decide)
  refine ⟨.inl ⟨by omega, by omega⟩, by decide, ret ?_⟩
  have h3 := emod_lt (a := y * 48271) (b := 2147483647) (by decide)
  exact hp _ h3.1 h3.2
theorem stt_eq (l m : Int) : gMerge [] [((.inr "left" : Key), Sl.d (.int l)), (.inr "more", .d (.int m))] = stt l m := by
  simp [gMerge, gPut, stt, kk klm]
theorem does__law_draw : Does 4 φ__law_draw c__law_draw := by
  rintro M ss post ⟨c, k, rfl, k0, k1, hp⟩
  show c__law_draw _ M [.d (.int c), .d (.int k), .n, .n]
  unfold c__law_draw
  walk_at "dl"
  refine ⟨c, k, rfl, k0, by omega, fun v v0 v1 => ?_⟩
  refine ⟨v, k + 1, rfl, by omega, by omega, fun a a0 a1 => ?_⟩
  walk_at "dl"
  refine ⟨⟨by decide, by decide, by decide⟩, .inl ⟨by omega, by omega⟩, ?_⟩
  refine ⟨v, k + 2, rfl, by omega, by omega, fun b b0 b1 => ?_⟩
  walk_at "dl"
  refine ⟨.inl ⟨by omega, by omega⟩, ?_⟩
  walk_at "dl"
  have hm : 0 ≤ a * 2147483647 ^ (Int.toNat 2) + b * 2147483647 + v := by
    have e : (2147483647 : Int) ^ (Int.toNat 2) = 4611686014132420609 := by decide
    rw [e]; omega
  generalize a * 2147483647 ^ (Int.toNat 2) + b * 2147483647 + v = mo at hm ⊢
  unfold dDisp
  intro p hq
  unfold dPairs dPairs dPairs
  walk_at "dl"
  refine ⟨⟨by decide, by decide, by decide⟩, ?_⟩
  walk_at "dl"
  refine ⟨_, rfl, ?_⟩
  have fin : ∀ l m : Int, 0 ≤ l → 0 ≤ m → (mput M p (.dK []) p = some (.dK []) ∧ ∃ kvs : List (Key × Sl), Paired (fun (q : Sl × Sl) (kv : Key × Sl) => (∃ x, q.1 = Sl.d x ∧ keyOf x = some kv.1) ∧ q.2 = kv.2) [(Sl.d (.str "left"), Sl.d (.int l)), (Sl.d (.str "more"), Sl.d (.int m))] kvs ∧ kvs.length ≤ 15 ∧ Ret post (mput (mput M p (.dK [])) p (.dK (gMerge [] kvs))) (.m p)) := fun l m l0 m0 => by
    refine ⟨mput_same, [(.inr "left", .d (.int l)), (.inr "more", .d (.int m))], .cons ⟨⟨_, rfl, rfl⟩, rfl⟩ (.cons ⟨⟨_, rfl, rfl⟩, rfl⟩ .nil), by simp, ?_⟩
    rw [stt_eq, mput_mput]
    exact ret (hp p l m hq l0 m0)
  by_cases hc : (10 : Int) ^ (Int.toNat 18) ≤ c
  · rw [decide_eq_true hc]
    refine iteT ⟨⟨by decide, by decide, by decide⟩, _, rfl, iteT ?_⟩
    refine fin c mo ?_ hm
    have e : (10 : Int) ^ (Int.toNat 18) = 1000000000000000000 := by decide
    rw [e] at hc; omega
  · rw [decide_eq_false hc]
    refine iteF ⟨⟨by decide, by decide, by decide⟩, _, rfl, iteF ?_⟩
    exact fin mo 0 hm (by omega)
theorem g_left {M : MHp} {p : Addr} {l m : Int} (h : M p = some (.dK (stt l m))) : GetS M p (.str "left") (some (.d (.int l))) := by
  unfold GetS; rw [h]
  refine ⟨.inr "left", rfl, ?_⟩
  simp [gVal, stt, List.find?_cons]
theorem g_more {M : MHp} {p : Addr} {l m : Int} (h : M p = some (.dK (stt l m))) : GetS M p (.str "more") (some (.d (.int m))) := by
  unfold GetS; rw [h]
  refine ⟨.inr "more", rfl, ?_⟩
  simp [gVal, stt, List.find?_cons, kk klm]
theorem p_left {M : MHp} {p : Addr} {l m k : Int} {Q : MHp → Prop} (h : M p = some (.dK (stt l m))) (hq : Q (mput M p (.dK (stt k m)))) : PutS M p (.str "left") (.d (.int k)) Q := by
  unfold PutS; rw [h]
  refine ⟨.inr "left", rfl, szl (by simp [stt]), ?_⟩
  have e : gPut (stt l m) (.inr "left") (.d (.int k)) = stt k m := by simp [gPut, stt, kk (Ne.symm klm)]
  rw [e]; exact hq
theorem p_more {M : MHp} {p : Addr} {l m k : Int} {Q : MHp → Prop} (h : M p = some (.dK (stt l m))) (hq : Q (mput M p (.dK (stt l k)))) : PutS M p (.str "more") (.d (.int k)) Q := by
  unfold PutS; rw [h]
  refine ⟨.inr "more", rfl, szl (by simp [stt]), ?_⟩
  have e : gPut (stt l m) (.inr "more") (.d (.int k)) = stt l k := by simp [gPut, stt, kk klm]
  rw [e]; exact hq
theorem does__law_digit : Does 3 φ__law_digit c__law_digit := by
  rintro M ss post ⟨p, l, m, n, rfl, hM, l0, m0, n0, n1, hp⟩
  show c__law_digit _ M [.m p, .d (.int n), .n]
  unfold c__law_digit
  have rest : ∀ M' l m, M' p = some (.dK (stt l m)) → 0 ≤ l → 0 ≤ m → (∀ o, mput M' p o = mput M p o) → (dSeq (dSet 2 (dOp ρMod (dOp ρDk (dV 0) (dC (.str "left"))) (dV 1))) (dSeq (dSub (dV 0) (dC (.str "left")) (dOp ρDiv (dOp ρDk (dV 0) (dC (.str "left"))) (dV 1))) (dRet (dV 2)))) { nx := fun M' _ => Ret post M' (.d .none), rt := Ret post } M' [.m p, .d (.int n), .n] := fun M' l m h l0 m0 e => by
    walk_at "dl"
    refine ⟨p, _, _, rfl, rfl, g_left h, n0, ?_⟩
    refine ⟨p, _, _, rfl, rfl, g_left h, ⟨n0, ?_⟩, ?_⟩
    · have : n.natAbs < 2 ^ 60 := by omega
      exact Nat.lt_of_lt_of_le (PySem.Flt.log2_lt_of (by omega) this) (by omega)
    refine .inr (p_left h ?_)
    rw [e]
    have h3 := emod_lt (a := l) n0
    exact ret (hp _ _ _ (Int.ediv_nonneg l0 (by omega)) m0 h3.1 h3.2)
  walk_at "dl"
  refine ⟨p, _, _, rfl, rfl, g_left hM, ρEq_d' (shaped_int _) (shaped_int _) ⟨_, rfl, ?_⟩⟩
  rw [eqv_int]
  by_cases hl : l = 0
  · rw [decide_eq_true hl]
    refine iteT ?_
    refine ⟨p, _, _, rfl, rfl, g_more hM, [.int m, .int 0], rfl, sz (by simp), .d (.int m), .d (.int 0), rfl, ?_⟩
    refine .inr (p_left hM (.inr (p_more mput_same ?_)))
    refine rest _ m 0 mput_same m0 (by omega) fun o => ?_
    rw [mput_mput, mput_mput]
  · rw [decide_eq_false hl]
    exact iteF (rest M l m hM l0 m0 fun o => rfl)
theorem join_len : ∀ ys : List Str, (∀ y ∈ ys, y.length ≤ 1) → (ys.map (·.length)).sum ≤ ys.length
  | [], _ => by simp
  | y :: ys, h => by
    have := join_len ys fun z hz => h z (List.mem_cons_of_mem _ hz)
    have := h y (List.mem_cons_self ..)
    simp; omega
theorem tl_e : tl "" = [] := by decide +kernel
theorem joinL_nil : ∀ ls : List (List Nat), TL.joinL [] ls = ls.flatten
  | [] => rfl
  | [l] => by simp [TL.joinL]
  | l :: k :: r => by
    show l ++ ([] ++ TL.joinL [] (k :: r)) = _
    rw [joinL_nil (k :: r)]; simp
theorem join_e (ys : List Str) : tl (Txt.join "" ys) = (ys.map tl).flatten := by
  rw [TL.join_eq]
  have := TL.tl_join "" ys
  rw [show TL.tl "" = [] from tl_e] at this
  exact this.trans (joinL_nil _)
theorem does__law_word : Does 3 φ__law_word c__law_word := by
  rintro M ss post ⟨p, l, m, z, rfl, hM, l0, m0, z0, z1, hok, hp⟩
  show c__law_word _ M [.m p, .d (.str z), .n]
  unfold c__law_word
  walk_at "dl"
  refine ⟨⟨_, rfl⟩, ?_⟩
  unfold dLc
  walk_at "dl"
  refine ⟨p, l, m, 11, rfl, hM, l0, m0, by decide, by decide, fun l1 m1 v l10 m10 v0 v1 => ?_⟩
  refine ⟨v, rfl, ⟨by omega, by omega⟩, ?_⟩
  intro Dn hD
  have npD : p ≠ Dn := fun e => by subst e; rw [mput_same] at hD; cases hD
  have hD0 : M Dn = none := by rw [mput_ne npD.symm] at hD; exact hD
  refine ⟨fun i M' acc => ∃ (ys : List Str) (l m : Int), 0 ≤ l ∧ 0 ≤ m ∧ ys.length = i ∧ (∀ y ∈ ys, ∃ c ∈ tl z, y = ⟨#[c]⟩) ∧ acc = (ys.map PyData.str).map Sl.d ∧ M' = mput (mput M p (.dK (stt l m))) Dn (.lst acc), ⟨[], l1, m1, l10, m10, rfl, (fun y hy => by cases hy), rfl, rfl⟩, ?_, ?_, ?_⟩
  · rintro i M' acc _ ⟨ys, l, m, _, _, _, _, _, rfl⟩; exact ⟨trivial, mput_same⟩
  · rintro i M' acc hi ⟨ys, l, m, l0, m0, hyl, hys, rfl, rfl⟩
    have hi : i < v.toNat := hi
    walk_at "dl"
    refine iteT ⟨sz (by omega), ?_⟩
    refine ⟨p, l, m, z.length, rfl, by rw [mput_ne npD]; exact mput_same, l0, m0, by omega, by omega, fun l2 m2 w l20 m20 w0 w1 => ?_⟩
    have hw : w.toNat < (tl z).length := by rw [← tl_len]; omega
    have ew : ((w.toNat : Nat) : Int) = w := by omega
    refine ⟨sz (by omega), (tl z)[w.toNat], by have := atI_at (List.getElem?_eq_getElem hw); rwa [ew] at this, ?_⟩
    rw [mput_comm npD.symm, mput_mput]
    refine ⟨mput_same, szl (by simp [hyl]; omega), ys ++ [⟨#[(tl z)[w.toNat]]⟩], l2, m2, l20, m20, by simp [hyl], ?_, ?_, ?_⟩
    · intro y hy
      rcases List.mem_append.mp hy with hy | hy
      · exact hys y hy
      · exact ⟨_, List.getElem_mem hw, by simpa using hy⟩
    · rw [List.map_append, List.map_append]; rfl
    · rw [mput_mput]
  · rintro M' acc ⟨ys, l, m, l0, m0, hyl, hys, rfl, rfl⟩
    have hyl : ys.length = v.toNat := hyl
    have hone : ∀ y ∈ ys, y.length ≤ 1 := fun y hy => by obtain ⟨c, _, rfl⟩ := hys y hy; exact Nat.le_refl 1
    have hj := join_len ys hone
    refine ⟨ys.map PyData.str, rfl, ?_⟩
    rw [mdel_mput (by rw [mput_ne npD.symm]; exact hD0)]
    refine ⟨"", ys, rfl, .inl rfl, by have : ("" : Str).length = 0 := by decide +kernel
                                      rw [this]; omega, ret (hp l m _ l0 m0 ?_ ?_)⟩
    · rw [tl_len, join_e, List.length_flatten, List.map_map]
      have e : (ys.map (List.length ∘ tl)) = ys.map (·.length) := List.map_congr_left fun y _ => (tl_len y).symm
      rw [e]; omega
    · refine strOk_of fun c hc => ?_
      rw [join_e, List.mem_flatten] at hc
      obtain ⟨t, ht, hc⟩ := hc
      obtain ⟨y, hy, rfl⟩ := List.mem_map.mp ht
      obtain ⟨d, hd, rfl⟩ := hys y hy
      have : c = d := by simpa [tl] using hc
      subst this
      exact strOk_mem hok hd
end K01
set_option Elab.async false
set_option linter.all false
set_option autoImplicit false
set_option maxRecDepth 100000
set_option maxHeartbeats 4000000
namespace K01
open PySem PySem.Spec PyProof.Rows L2 DL
local macro_rules | `(tactic| walk_at "dl") => `(tactic| try dsimp only [dSeq, dSet, dLstM, dOp, dV, dVs_d, dVs_m, dVs_s, dC, dCc, dCB, dCons, dNil, dLst, dTup, dUn, dB, dTru, dAnd, dOr, dNot, dAndV, dOrV, dNotV, dIfE, dIf, dRet, dExpr, dBM, dVF, dIn, dEnum, dZip, dRng1, dRng2, dPar, dAsg, dCall, dNext, dBreak, dYes, dSl, dPart, dNoP, dRev, dSub, dSubs, dIsi, dChain, dSgn, dM1, dCatR, dGet1, dGet2, Tg.set, setAll_c, setAll_0, wipeS, wkD, wkR, ρAdd_int, ρAdd_str, ρAdd_tup, ρSub_int, ρMul_int, ρMod_int, ρDiv_int, ρPow_int, ρLt_int, ρLe_int, ρGt_int, ρGe_int, ρNeg_int, ρIx_lst, ρIx_tup, ρIx_str, ρIx_scr, ρLen_lst, ρLen_tup, ρLen_str, ρLen_scr, ρMax_2, ρMin_2, ρInt_int, ρInt_bool, ρApp_m, ρTru_b, ρTru_n, ρTru_i, ρTru_l, ρTru_t, ρWk_l, ρWk_t, ρWk_s, ρWk_m, ρWk_tt, ρIx_t, ρLen_t, ρTru_tt, dVs_t, dTupT, dEnumS, dZipS, ρSl_t, ρSl_s, ρSl_c, List.cons_append, List.nil_append, List.length_cons, List.length_nil, List.getElem?_cons_succ, List.getElem?_cons_zero, List.set_cons_succ, List.set_cons_zero, List.map])

theorem fm_if {α β : Type} (L : List α) (c : α → Bool) (g : α → β) : L.filterMap (fun p => if c p = true then some (g p) else none) = (L.filter c).map g := by
  induction L with
  | nil => rfl
  | cons a L ih =>
    by_cases h : c a = true
    · rw [List.filterMap_cons_some (by rw [if_pos h]), List.filter_cons_of_pos h, ih]; rfl
    · rw [List.filterMap_cons_none (by rw [if_neg h]), List.filter_cons_of_neg h, ih]
theorem filter_len (l : List Nat) (g : Nat → Bool) : decide ((l.filter g).length = l.length) = l.all g := by
  induction l with
  | nil => rfl
  | cons c l ih =>
    cases h : g c with
    | true =>
      rw [List.filter_cons_of_pos h, List.length_cons, List.length_cons, List.all_cons, h, ← ih]
      simp
    | false =>
      rw [List.filter_cons_of_neg (by rw [h]; exact Bool.false_ne_true), List.all_cons, h]
      have := List.length_filter_le g l
      rw [List.length_cons, decide_eq_false (by omega)]; rfl
theorem does__law_is_word : Does 3 φ__law_is_word c__law_is_word := by
  rintro M ss post ⟨z, rfl, ⟨hz, hok⟩, hp⟩
  show c__law_is_word _ M [.d (.str z), .n, .n]
  unfold c__law_is_word
  walk_at "dl"
  refine lc_sgn z (fun c => if decide (c ∈ letL) = true then some (.str ⟨#[c]⟩) else none) (by omega) (fun Q hQ => hQ) (fun c hc Dn acc hD A B hA hB => ?_) ?_
  · walk_at "dl"
    refine ⟨c, rfl, _, rfl, ?_⟩
    show if decide (c ∈ letL) = true then _ else _
    by_cases h : c ∈ letL
    · rw [decide_eq_true h] at hA ⊢
      exact iteT (hA _ rfl)
    · rw [decide_eq_false h] at hB ⊢
      exact iteF (hB rfl)
  rw [fm_if]
  walk_at "dl"
  refine ⟨sz (by omega), _, rfl, ?_⟩
  unfold isWord at hp
  have last : 1 ≤ z.length → z.length ≤ 8 → ρEq (.d (.int ((List.map (fun c => PyData.str ⟨#[c]⟩) (List.filter (fun c => decide (c ∈ letL)) (tl z))).length : Nat))) (.d (.int (z.length : Nat))) M (Ret post) := fun g1 g2 => by
    refine ρEq_d' (shaped_int _) (shaped_int _) (ret ?_)
    rw [eqv_int, List.length_map]
    have e : decide (((List.filter (fun c => decide (c ∈ letL)) (tl z)).length : Int) = (z.length : Int)) = (tl z).all fun c => decide (c ∈ letL) := by
      rw [← filter_len]; exact decide_eq_decide.mpr (by rw [tl_len z]; omega)
    rw [e]
    simpa [g1, g2] using hp
  by_cases g1 : 1 ≤ z.length
  · rw [decide_eq_true (show (1 : Int) ≤ z.length by omega)]
    refine iteT ⟨_, rfl, ?_⟩
    by_cases g2 : z.length ≤ 8
    · rw [decide_eq_true (show (z.length : Int) ≤ 8 by omega)]
      exact iteT ⟨sz (by omega), last g1 g2⟩
    · rw [decide_eq_false (show ¬ (z.length : Int) ≤ 8 by omega)]
      exact iteF (ret (by simpa [g2] using hp))
  · rw [decide_eq_false (show ¬ (1 : Int) ≤ z.length by omega)]
    exact iteF ⟨_, rfl, iteF (ret (by simpa [g1] using hp))⟩
theorem fig9 : tl "123456789" = [49, 50, 51, 52, 53, 54, 55, 56, 57] := by decide +kernel
theorem occ_fig : ∀ c, 48 ≤ c → c ≤ 57 → ∃ rest, Builtin.Str.occurrences ("0123456789" : Str) ⟨#[c]⟩ 0 ("0123456789" : Str).length 1 = (c - 48) :: rest := by
  intro c h1 h2
  have : c = 48 ∨ c = 49 ∨ c = 50 ∨ c = 51 ∨ c = 52 ∨ c = 53 ∨ c = 54 ∨ c = 55 ∨ c = 56 ∨ c = 57 := by omega
  rcases this with rfl | rfl | rfl | rfl | rfl | rfl | rfl | rfl | rfl | rfl <;> exact ⟨[], by decide +kernel⟩
theorem does__law_number : Does 3 φ__law_number c__law_number := by
  rintro M ss post ⟨z, rfl, ⟨hz, hok⟩, hp⟩
  show c__law_number _ M [.d (.str z), .n, .n]
  unfold c__law_number
  have nn : isNum z = false → post M (.d .none) := fun e => by unfold numOf at hp; rw [if_neg (by rw [e]; exact Bool.false_ne_true)] at hp; exact hp
  walk_at "dl"
  refine ⟨sz (by omega), _, rfl, ?_⟩
  by_cases g1 : 1 ≤ z.length
  · rw [decide_eq_true (show (1 : Int) ≤ z.length by omega)]
    refine iteT ⟨_, rfl, ?_⟩
    by_cases g2 : z.length ≤ 6
    · rw [decide_eq_true (show (z.length : Int) ≤ 6 by omega)]
      obtain ⟨c, r, hcr⟩ : ∃ c r, tl z = c :: r := by
        cases e : tl z with
        | nil => rw [tl_len, e] at g1; simp at g1
        | cons c r => exact ⟨c, r, rfl⟩
      have e0 : (tl z).getD 0 0 = c := by rw [hcr]; rfl
      refine iteF ⟨sz (by omega), c, atI_at (i := 0) (by show (tl z)[0]? = _; rw [hcr]; rfl), c, rfl, _, rfl, ?_⟩
      show if (!decide (c ∈ tl "123456789")) = true then _ else _
      have m9 : c ∈ tl "123456789" ↔ 49 ≤ c ∧ c ≤ 57 := by rw [fig9]; simp; omega
      by_cases h9 : c ∈ tl "123456789"
      · rw [decide_eq_true h9]
        have hc := m9.mp h9
        refine iteF ?_
        refine lc_sgn z (fun c => if (!decide (c ∈ figL)) = true then some (.str ⟨#[c]⟩) else none) (by omega) (fun Q hQ => hQ) (fun c hc Dn acc hD A B hA hB => ?_) ?_
        · walk_at "dl"
          refine ⟨c, rfl, _, rfl, ?_⟩
          show if (!decide (c ∈ figL)) = true then _ else _
          by_cases h : c ∈ figL
          · rw [decide_eq_true h] at hB ⊢
            exact iteF (hB rfl)
          · rw [decide_eq_false h] at hA ⊢
            exact iteT (hA _ rfl)
        rw [fm_if]
        walk_at "dl"
        refine ⟨[], rfl, sz (by simp), ?_⟩
        have hsh : SeqAt.shaped (.list ((List.filter (fun c => !decide (c ∈ figL)) (tl z)).map fun c => PyData.str ⟨#[c]⟩)) = true := shaped_lst fun d hd => by
          obtain ⟨c, hc, rfl⟩ := List.mem_map.mp hd
          exact (Sx.mk (by show 1 ≤ _; decide) (strOk_1 (strOk_mem hok (List.mem_filter.mp hc).1))).sms
        refine ρNe_d' hsh (by decide +kernel) ⟨_, rfl, ?_⟩
        cases hall : (tl z).all fun c => decide (c ∈ figL) with
        | false =>
          have hne : List.filter (fun c => !decide (c ∈ figL)) (tl z) ≠ [] := fun e => by
            rw [List.filter_eq_nil_iff] at e
            rw [List.all_eq_false] at hall
            obtain ⟨x, hx, hx2⟩ := hall
            exact e x hx (by simpa using hx2)
          have e1 : (!PyData.eqv (.list ((List.filter (fun c => !decide (c ∈ figL)) (tl z)).map fun c => PyData.str ⟨#[c]⟩)) (.list [])) = true := by
            cases q : List.filter (fun c => !decide (c ∈ figL)) (tl z) with
            | nil => exact absurd q hne
            | cons a b => simp [PyData.eqv, PyData.eqvAll]
          rw [e1]
          exact iteT (ret (nn (by unfold isNum; rw [hall]; simp)))
        | true =>
          have heq : List.filter (fun c => !decide (c ∈ figL)) (tl z) = [] := by
            rw [List.filter_eq_nil_iff]
            rw [List.all_eq_true] at hall
            intro x hx; have := hall x hx; simpa using this
          rw [heq]
          refine iteF ?_
          have hn : isNum z = true := by unfold isNum; rw [hall, e0, decide_eq_true g1, decide_eq_true g2, decide_eq_false (show ¬ c = 48 by omega)]; rfl
          obtain ⟨_, _, hd, _, _⟩ := num_all hn
          unfold dFor
          walk_at "dl"
          refine ⟨z, rfl, fun i M' es' => M' = M ∧ ∃ s1, es' = [.d (.str z), s1, .d (.int (((tl z).take i).foldl (fun acc c => acc * 10 + (c - 48)) 0 : Nat))], ⟨rfl, _, rfl⟩, fun _ _ _ _ _ => trivial, ?_, ?_⟩
          · rintro i M' es' hi ⟨rfl, s1, rfl⟩
            have hi : i < (tl z).length := hi
            unfold c__law_number_b1 sgn
            have ec : z.cps.toList.getD i 0 = (tl z)[i] := by rw [List.getD_eq_getElem?_getD, List.getElem?_eq_getElem hi]; rfl
            rw [ec]
            have hdi := hd _ (List.getElem_mem hi)
            obtain ⟨rest, hocc⟩ := occ_fig _ hdi.1 hdi.2
            walk_at "dl"
            refine ⟨.inr ⟨by decide, by decide⟩, ⟨_, rfl⟩, _, _, _, _, rfl, rfl, hocc, rfl, .d (.str ⟨#[(tl z)[i]]⟩), ?_⟩
            rw [List.take_succ_eq_append_getElem hi, List.foldl_append]
            simp
          · rintro M' es' ⟨rfl, s1, rfl⟩
            walk_at "dl"
            refine ret ?_
            unfold numOf at hp
            rw [if_pos hn] at hp
            rw [show (z.cps.toList.length) = (tl z).length from rfl, List.take_length]
            exact hp
      · rw [decide_eq_false h9]
        refine iteT (ret (nn ?_))
        by_cases h48 : c = 48
        · unfold isNum; rw [e0, h48]; simp
        · have : c ∉ figL := fun h => h9 (m9.mpr (by have := mem_fig.mp h; omega))
          unfold isNum; rw [hcr, List.all_cons, decide_eq_false this]; simp
    · rw [decide_eq_false (show ¬ (z.length : Int) ≤ 6 by omega)]
      exact iteT (iteT (ret (nn (by unfold isNum; rw [decide_eq_false g2]; simp))))
  · rw [decide_eq_false (show ¬ (1 : Int) ≤ z.length by omega)]
    exact iteF ⟨_, rfl, iteT (iteT (ret (nn (by unfold isNum; rw [decide_eq_false g1]; simp))))⟩
end K01
set_option Elab.async false
set_option linter.all false
set_option autoImplicit false
set_option maxRecDepth 100000
set_option maxHeartbeats 4000000
namespace K01
open PySem PySem.Spec PyProof.Rows L2 DL
local macro_rules | `(tactic| walk_at "dl") => `(tactic| try dsimp only [dSeq, dSet, dLstM, dOp, dV, dVs_d, dVs_m, dVs_s, dC, dCc, dCB, dCons, dNil, dLst, dTup, dUn, dB, dTru, dAnd, dOr, dNot, dAndV, dOrV, dNotV, dIfE, dIf, dRet, dExpr, dBM, dVF, dIn, dEnum, dZip, dRng1, dRng2, dPar, dAsg, dCall, dNext, dBreak, dYes, dSl, dPart, dNoP, dRev, dSub, dSubs, dIsi, dChain, dSgn, dM1, dCatR, dGet1, dGet2, Tg.set, setAll_c, setAll_0, wipeS, wkD, wkR, ρAdd_int, ρAdd_str, ρAdd_tup, ρSub_int, ρMul_int, ρMod_int, ρDiv_int, ρPow_int, ρLt_int, ρLe_int, ρGt_int, ρGe_int, ρNeg_int, ρIx_lst, ρIx_tup, ρIx_str, ρIx_scr, ρLen_lst, ρLen_tup, ρLen_str, ρLen_scr, ρMax_2, ρMin_2, ρInt_int, ρInt_bool, ρApp_m, ρTru_b, ρTru_n, ρTru_i, ρTru_l, ρTru_t, ρWk_l, ρWk_t, ρWk_s, ρWk_m, ρWk_tt, ρIx_t, ρLen_t, ρTru_tt, dVs_t, dTupT, dEnumS, dZipS, ρSl_t, ρSl_s, ρSl_c, List.cons_append, List.nil_append, List.length_cons, List.length_nil, List.getElem?_cons_succ, List.getElem?_cons_zero, List.set_cons_succ, List.set_cons_zero, List.map])

theorem foldl_ge (l : List Nat) : ∀ a : Nat, a ≤ l.foldl (fun acc c => acc * 10 + (c - 48)) a := by
  induction l with
  | nil => intro a; exact Nat.le_refl _
  | cons c l ih => intro a; have := ih (a * 10 + (c - 48)); rw [List.foldl_cons]; omega
theorem val_pos {z : Str} (h : isNum z = true) : 1 ≤ NumText.digitsVal (tl z) := by
  obtain ⟨_, _, hd, hne, h0⟩ := num_all h
  cases e : tl z with
  | nil => exact absurd e hne
  | cons c r =>
    rw [e] at hd h0
    have hc := hd c (List.mem_cons_self ..)
    have h0 : c ≠ 48 := h0
    unfold NumText.digitsVal
    rw [List.foldl_cons]
    exact Nat.le_trans (by omega) (foldl_ge r _)
theorem val_lt {z : Str} (h : isNum z = true) : NumText.digitsVal (tl z) < 10 ^ 9 := by
  obtain ⟨_, h6, hd, _, _⟩ := num_all h
  have key : ∀ (l : List Nat) (a : Nat), NumText.AllDigits l → l.foldl (fun acc c => acc * 10 + (c - 48)) a + 1 ≤ (a + 1) * 10 ^ l.length := by
    intro l
    induction l with
    | nil => intro a _; simp
    | cons c l ih =>
      intro a hd
      have hc := hd.head
      have h1 := ih (a * 10 + (c - 48)) hd.tail
      rw [List.foldl_cons, List.length_cons, Nat.pow_succ]
      refine Nat.le_trans h1 ?_
      rw [Nat.mul_comm (10 ^ l.length) 10, ← Nat.mul_assoc]
      exact Nat.mul_le_mul_right _ (by omega)
  have h1 := key (tl z) 0 hd
  unfold NumText.digitsVal
  rw [tl_len] at h6
  have h2 : 10 ^ (tl z).length ≤ 10 ^ 6 := Nat.pow_le_pow_right (by decide) h6
  omega
/-- str(int(text)) -/
theorem num_back {z : Str} (h : isNum z = true) : strI (NumText.digitsVal (tl z) : Nat) = z := by
  obtain ⟨h1, _, hd, hne, h0⟩ := num_all h
  refine TL.ext_tl ?_
  have e : TL.tl (strI (NumText.digitsVal (tl z) : Nat)) = TL.numL (NumText.digitsVal (tl z)) := TL.tl_num _
  rw [e]
  unfold TL.numL
  cases q : tl z with
  | nil => exact absurd q hne
  | cons c r =>
    rw [q] at hd h0
    have hc := hd.head
    have h0 : c ≠ 48 := h0
    have t := NumText.toDigits_digitsVal r.length (c :: r) rfl hd (.inr ⟨c, r, rfl, by omega⟩)
    rw [t, List.map_map]
    have : ∀ l : List Nat, NumText.AllDigits l → l.map (Char.toNat ∘ Char.ofNat) = l := fun l => by
      induction l with
      | nil => intro _; rfl
      | cons d l ih =>
        intro hl
        have hd := hl.head
        rw [List.map_cons, ih hl.tail]
        congr 1
        have : d = 48 ∨ d = 49 ∨ d = 50 ∨ d = 51 ∨ d = 52 ∨ d = 53 ∨ d = 54 ∨ d = 55 ∨ d = 56 ∨ d = 57 := by omega
        rcases this with rfl | rfl | rfl | rfl | rfl | rfl | rfl | rfl | rfl | rfl <;> rfl
    rw [this _ hd]; exact q.symm
theorem join_spl (s : Nat) : ∀ (l acc : List Nat), TL.joinL [s] (TL.spl [s] 0 acc l) = acc ++ l
  | [], acc => by rw [TL.spl_nil]; simp [TL.joinL]
  | c :: r, acc => by
    by_cases h : TL.pre [s] (c :: r) = true
    · rw [TL.spl_hit h]
      have hc : c = s := by
        unfold TL.pre at h
        simpa using h
      subst hc
      have ih := join_spl c r []
      show TL.joinL [c] (acc :: TL.spl [c] 0 [] r) = _
      cases q : TL.spl [c] 0 [] r with
      | nil => 
        rw [q] at ih
        exfalso
        have : TL.spl [c] 0 [] r ≠ [] := by
          cases r with
          | nil => rw [TL.spl_nil]; simp
          | cons d r =>
            by_cases h : TL.pre [c] (d :: r) = true
            · rw [TL.spl_hit h]; simp
            · intro e
              have := congrArg List.length e
              rw [TL.spl_miss (by simpa using h)] at e
              have key : ∀ (l acc : List Nat), TL.spl [c] 0 acc l ≠ [] := fun l => by
                induction l with
                | nil => intro acc; rw [TL.spl_nil]; simp
                | cons x l ih =>
                  intro acc
                  by_cases h : TL.pre [c] (x :: l) = true
                  · rw [TL.spl_hit h]; simp
                  · rw [TL.spl_miss (by simpa using h)]; exact ih _
              exact key _ _ e
        exact this q
      | cons x y =>
        rw [q] at ih
        show acc ++ ([c] ++ TL.joinL [c] (x :: y)) = _
        rw [ih]; simp
    · rw [TL.spl_miss (by simpa using h), join_spl s r (acc ++ [c])]; simp
theorem pts_join (z : Str) : TL.joinL [46] ((pts z).map tl) = tl z := by
  unfold pts
  rw [split_tl z (c := 46) (by decide +kernel) (by decide +kernel), join_spl]; rfl
theorem eqv_rfl {x : PyData} (h : SeqAt.shaped x = true) : PyData.eqv x x = true := by
  unfold SeqAt.shaped at h
  rw [Bool.and_eq_true] at h
  exact PySem.SeqAt.eqv_refl x h.1
theorem nameOf_sh {z : Str} (h : Sx z) : SeqAt.shaped (nameOf z) = true := by
  unfold nameOf; split
  · rename_i a b e
    split
    · exact shaped_tup fun d hd => by
        simp at hd
        rcases hd with rfl | rfl
        · exact (pts_sx h (by rw [e]; simp)).sms
        · exact sms_num b
    · exact shaped_non
  · exact shaped_non
theorem lineOf_sh {z : Str} (h : Sx z) : SeqAt.shaped (lineOf z) = true := by
  unfold lineOf; split
  · rename_i a b c e
    split
    · exact shaped_tup fun d hd => by
        simp at hd
        rcases hd with rfl | rfl | rfl
        · exact (pts_sx h (by rw [e]; simp)).sms
        · exact sms_num b
        · exact sms_num c
    · exact shaped_non
  · exact shaped_non
theorem cutS1 {α : Type} {a : α} {r : List α} : DL.cutD (a :: r) (some 1) none = r := by
  have h : HT.sIx (r.length + 1) 0 (some ((1 : Nat) : Int)) = min 1 (r.length + 1) := HT.sIx_nat _ 0 1
  have h0 : min 1 (r.length + 1) = 1 := by omega
  rw [h0] at h
  unfold DL.cutD
  show ((a :: r).drop (HT.sIx (r.length + 1) 0 (some ((1 : Nat) : Int)))).take (HT.sIx (r.length + 1) (r.length + 1) none - HT.sIx (r.length + 1) 0 (some ((1 : Nat) : Int))) = r
  rw [h]
  show r.take (r.length + 1 - 1) = r
  simp
theorem inF_non1 {z : Str} : inF .none [numOf z] = !isNum z := by
  unfold inF numOf
  cases h : isNum z <;> simp [PyData.eqv]
theorem inF_non2 {y z : Str} : inF .none [numOf y, numOf z] = !(isNum y && isNum z) := by
  unfold inF numOf
  cases h : isNum y <;> cases h' : isNum z <;> simp [PyData.eqv]
theorem numOf_i {z : Str} (h : isNum z = true) : numOf z = .int (NumText.digitsVal (tl z) : Nat) := by unfold numOf; rw [if_pos h]
theorem numOf_n {z : Str} (h : isNum z = false) : numOf z = .none := by unfold numOf; rw [h]; rfl
theorem among_num {z : Str} : amongD (numOf z) 1 999 = (isNum z && decide (NumText.digitsVal (tl z) ≤ 999)) := by
  cases h : isNum z with
  | false => rw [numOf_n h]; rfl
  | true =>
    rw [numOf_i h]
    have := val_pos h
    show (decide ((1 : Int) ≤ (NumText.digitsVal (tl z) : Nat)) && decide (((NumText.digitsVal (tl z) : Nat) : Int) ≤ 999)) = _
    rw [decide_eq_true (by omega)]
    simp; omega
theorem pos_num {z : Str} : posD (numOf z) = isNum z := by
  cases h : isNum z with
  | false => rw [numOf_n h]; rfl
  | true =>
    rw [numOf_i h]
    have := val_pos h
    exact decide_eq_true (show (0 : Int) < ((NumText.digitsVal (tl z) : Nat) : Int) by omega)
theorem nameD_num {a b : Str} : nameD (.tuple [.str a, numOf b]) = (isWord a && !inF (.str a) resv && (isNum b && decide (NumText.digitsVal (tl b) ≤ 999))) := by
  show (handD (.str a) && amongD (numOf b) 1 999) = _
  rw [among_num]; rfl
theorem putD_num {a b c : Str} : putD (.tuple [.str a, numOf b, numOf c]) = (isWord a && !inF (.str a) resv && (isNum b && decide (NumText.digitsVal (tl b) ≤ 999)) && isNum c) := by
  show (nameD (.tuple [.str a, numOf b]) && posD (numOf c)) = _
  rw [nameD_num, pos_num]
theorem nameOf_eq {z a b : Str} (e : pts z = [a, b]) : nameOf z = if nameD (.tuple [.str a, numOf b]) = true then .tuple [.str a, numOf b] else .none := by unfold nameOf; rw [e]
theorem lineOf_eq {z a b c : Str} (e : pts z = [a, b, c]) : lineOf z = if putD (.tuple [.str a, numOf b, numOf c]) = true then .tuple [.str a, numOf b, numOf c] else .none := by unfold lineOf; rw [e]
theorem does__law_parts : Does 5 φ__law_parts c__law_parts := by
  rintro M ss post ⟨z, n, rfl, hx, h⟩
  show c__law_parts _ M [.d (.str z), .d (.int n), .n, .n, .n]
  unfold c__law_parts
  walk_at "dl"
  obtain ⟨hz, hok⟩ := id hx
  refine ⟨⟨z, rfl⟩, z, ".", rfl, rfl, by decide +kernel, sz (by omega), iteF ?_⟩
  walk_at "dl"
  refine ρNe_d' (shaped_int _) (shaped_int _) ⟨_, rfl, ?_⟩
  rw [List.length_map, show Txt.split z "." = pts z from rfl]
  rcases h with ⟨rfl, hp⟩ | ⟨rfl, hp⟩
  · show if (!PyData.eqv (.int ((pts z).length : Nat)) (.int (2 : Nat))) = true then _ else _
    by_cases h2 : (pts z).length = 2
    · obtain ⟨a, b, e⟩ : ∃ a b, pts z = [a, b] := by
        match pts z, h2 with
        | [a, b], _ => exact ⟨a, b, rfl⟩
      have sa : Sx a := pts_sx hx (by rw [e]; simp)
      have sb : Sx b := pts_sx hx (by rw [e]; simp)
      rw [nameOf_eq e, nameD_num] at hp
      rw [h2, len_eq, e]
      refine iteF ⟨.str a, atI_at (i := 0) rfl, a, rfl, sa, ?_⟩
      walk_at "dl"
      cases hw : isWord a with
      | false => rw [hw] at hp; exact iteT (iteT (ret (by simpa using hp)))
      | true =>
        rw [hw] at hp
        refine iteF ⟨.str a, atI_at (i := 0) rfl, ⟨[.str "head", .str "foot", .str "none"], rfl, sz (by simp), .str a, resv, rfl, rfl, rfl, _, rfl, ?_⟩⟩
        show if inF (.str a) resv = true then _ else _
        cases hr : inF (.str a) resv with
        | true => rw [hr] at hp; exact iteT (ret (by simpa using hp))
        | false =>
          rw [hr] at hp
          refine iteF ?_
          refine lc_pure (wkD [.str b]) (fun i => some (numOf b)) (fun C hC => ?_) (by show 1 ≤ _; decide) (fun _ _ _ => trivial) (fun i hi Dn acc hD A B hA hB => ?_) ?_
          · walk_at "dl"
            refine ⟨1, rfl, _, rfl, ?_⟩
            rw [cutS1]; exact hC
          · have hi : i = 0 := by have : i < 1 := hi; omega
            subst hi
            walk_at "dl"
            exact iteT ⟨b, rfl, sb, hA _ rfl⟩
          · walk_at "dl"
            refine ⟨.none, [numOf b], rfl, rfl, by simp [(sms_num b).1], _, rfl, ?_⟩
            show if inF .none [numOf b] = true then _ else _
            rw [inF_non1]
            cases hn : isNum b with
            | false => rw [hn] at hp; exact iteT (iteT (ret (by simpa using hp)))
            | true =>
              rw [hn] at hp
              refine iteF ⟨numOf b, atI_at (i := 0) rfl, ?_⟩
              rw [numOf_i hn] at hp ⊢
              walk_at "dl"
              refine ⟨_, rfl, ?_⟩
              by_cases h9 : NumText.digitsVal (tl b) ≤ 999
              · rw [decide_eq_true h9] at hp
                rw [decide_eq_false (by omega)]
                refine iteF ⟨.str a, atI_at (i := 0) rfl, [.str a], rfl, sz (by simp), ρAdd_lst ⟨sz (by simp), _, _, rfl, .inl rfl, ret ?_⟩⟩
                show post M (.d (.tuple ([.str a] ++ [.int (NumText.digitsVal (tl b) : Nat)])))
                simpa using hp
              · rw [decide_eq_false h9] at hp
                rw [decide_eq_true (by omega)]
                exact iteT (ret (by simpa using hp))
    · rw [len_ne h2]
      refine iteT (iteT (ret ?_))
      rw [nameOf_n h2] at hp; exact hp
  · show if (!PyData.eqv (.int ((pts z).length : Nat)) (.int (3 : Nat))) = true then _ else _
    by_cases h2 : (pts z).length = 3
    · obtain ⟨a, b, c, e⟩ : ∃ a b c, pts z = [a, b, c] := by
        match pts z, h2 with
        | [a, b, c], _ => exact ⟨a, b, c, rfl⟩
      have sa : Sx a := pts_sx hx (by rw [e]; simp)
      have sb : Sx b := pts_sx hx (by rw [e]; simp)
      have sc : Sx c := pts_sx hx (by rw [e]; simp)
      rw [lineOf_eq e, putD_num] at hp
      rw [h2, len_eq, e]
      refine iteF ⟨.str a, atI_at (i := 0) rfl, a, rfl, sa, ?_⟩
      walk_at "dl"
      cases hw : isWord a with
      | false => rw [hw] at hp; exact iteT (iteT (ret (by simpa using hp)))
      | true =>
        rw [hw] at hp
        refine iteF ⟨.str a, atI_at (i := 0) rfl, ⟨[.str "head", .str "foot", .str "none"], rfl, sz (by simp), .str a, resv, rfl, rfl, rfl, _, rfl, ?_⟩⟩
        show if inF (.str a) resv = true then _ else _
        cases hr : inF (.str a) resv with
        | true => rw [hr] at hp; exact iteT (ret (by simpa using hp))
        | false =>
          rw [hr] at hp
          refine iteF ?_
          refine lc_pure (wkD [.str b, .str c]) (fun i => some ([numOf b, numOf c].getD i .none)) (fun C hC => ?_) (by show 2 ≤ _; decide) (fun _ _ _ => trivial) (fun i hi Dn acc hD A B hA hB => ?_) ?_
          · walk_at "dl"
            refine ⟨1, rfl, _, rfl, ?_⟩
            rw [cutS1]; exact hC
          · have hi : i < 2 := hi
            walk_at "dl"
            match i, hi with
            | 0, _ => exact iteT ⟨b, rfl, sb, hA _ rfl⟩
            | 1, _ => exact iteT ⟨c, rfl, sc, hA _ rfl⟩
          · walk_at "dl"
            refine ⟨.none, [numOf b, numOf c], rfl, rfl, by simp [(sms_num b).1, (sms_num c).1], _, rfl, ?_⟩
            show if inF .none [numOf b, numOf c] = true then _ else _
            rw [inF_non2]
            cases hn : isNum b with
            | false => rw [hn] at hp; exact iteT (iteT (ret (by simpa using hp)))
            | true =>
              cases hn' : isNum c with
              | false => rw [hn'] at hp; exact iteT (iteT (ret (by simpa using hp)))
              | true =>
                rw [hn, hn'] at hp
                refine iteF ⟨numOf b, atI_at (i := 0) rfl, ?_⟩
                rw [numOf_i hn, numOf_i hn'] at hp
                have e9 : ([numOf b, numOf c] : List PyData) = [.int (NumText.digitsVal (tl b) : Nat), .int (NumText.digitsVal (tl c) : Nat)] := by rw [numOf_i hn, numOf_i hn']
                show ρGt (.d (numOf b)) _ _ _
                rw [numOf_i hn]
                walk_at "dl"
                refine ⟨_, rfl, ?_⟩
                by_cases h9 : NumText.digitsVal (tl b) ≤ 999
                · rw [decide_eq_true h9] at hp
                  rw [decide_eq_false (by omega)]
                  refine iteF ⟨.str a, atI_at (i := 0) rfl, [.str a], rfl, sz (by simp), ρAdd_lst ⟨sz (by simp), _, _, rfl, .inl rfl, ret ?_⟩⟩
                  show post M (.d (.tuple ([.str a] ++ [.int (NumText.digitsVal (tl b) : Nat), numOf c])))
                  rw [numOf_i hn']
                  simpa using hp
                · rw [decide_eq_false h9] at hp
                  rw [decide_eq_true (by omega)]
                  exact iteT (ret (by simpa using hp))
    · rw [len_ne h2]
      refine iteT (iteT (ret ?_))
      rw [lineOf_n h2] at hp; exact hp
end K01
set_option Elab.async false
set_option linter.all false
set_option autoImplicit false
set_option maxRecDepth 100000
set_option maxHeartbeats 4000000
namespace K01
open PySem PySem.Spec PyProof.Rows L2 DL
local macro_rules | `(tactic| walk_at "dl") => `(tactic| try dsimp only [dSeq, dSet, dLstM, dOp, dV, dVs_d, dVs_m, dVs_s, dC, dCc, dCB, dCons, dNil, dLst, dTup, dUn, dB, dTru, dAnd, dOr, dNot, dAndV, dOrV, dNotV, dIfE, dIf, dRet, dExpr, dBM, dVF, dIn, dEnum, dZip, dRng1, dRng2, dPar, dAsg, dCall, dNext, dBreak, dYes, dSl, dPart, dNoP, dRev, dSub, dSubs, dIsi, dChain, dSgn, dM1, dCatR, dGet1, dGet2, Tg.set, setAll_c, setAll_0, wipeS, wkD, wkR, ρAdd_int, ρAdd_str, ρAdd_tup, ρSub_int, ρMul_int, ρMod_int, ρDiv_int, ρPow_int, ρLt_int, ρLe_int, ρGt_int, ρGe_int, ρNeg_int, ρIx_lst, ρIx_tup, ρIx_str, ρIx_scr, ρLen_lst, ρLen_tup, ρLen_str, ρLen_scr, ρMax_2, ρMin_2, ρInt_int, ρInt_bool, ρApp_m, ρTru_b, ρTru_n, ρTru_i, ρTru_l, ρTru_t, ρWk_l, ρWk_t, ρWk_s, ρWk_m, ρWk_tt, ρIx_t, ρLen_t, ρTru_tt, dVs_t, dTupT, dEnumS, dZipS, ρSl_t, ρSl_s, ρSl_c, List.cons_append, List.nil_append, List.length_cons, List.length_nil, List.getElem?_cons_succ, List.getElem?_cons_zero, List.set_cons_succ, List.set_cons_zero, List.map])

/-- a line of a word, as data -/
def lineX (z : Str) : PyData := if z = "head" then headL else if z = "foot" then footL else lineOf z
theorem lineX_sh {z : Str} (h : Sx z) : SeqAt.shaped (lineX z) = true := by
  unfold lineX; split
  · exact shaped_head
  · split
    · exact shaped_foot
    · exact lineOf_sh h
theorem khf : ¬ (("head" : Str) = "foot") := by decide +kernel
theorem nameD_inv {x : PyData} (h : nameD x = true) : ∃ a b, x = .tuple [a, b] ∧ handD a = true ∧ amongD b 1 999 = true := by
  unfold nameD at h; split at h
  · rw [Bool.and_eq_true] at h; exact ⟨_, _, rfl, h.1, h.2⟩
  · cases h
/-- what a name's word tells -/
theorem nameOf_cases (z : Str) : nameOf z = .none ∨ ∃ (a : Str) (v : Nat), nameOf z = .tuple [.str a, .int v] ∧ nameT a v = z ∧ v < 10 ^ 9 ∧ a.length ≤ z.length := by
  unfold nameOf
  split
  · rename_i a b e
    split
    · rename_i h
      rw [nameD_num] at h
      simp only [Bool.and_eq_true] at h
      obtain ⟨⟨hw, _⟩, hn, _⟩ := h
      refine .inr ⟨a, NumText.digitsVal (tl b), by rw [numOf_i hn], ?_, val_lt hn, ?_⟩
      · refine TL.ext_tl ?_
        show tl (a ++ "." ++ strI (NumText.digitsVal (tl b) : Nat)) = tl z
        rw [num_back hn, tl_app, tl_app, tl_pt, ← pts_join z, e]
        simp [TL.joinL]
      · have h1 := pts_join z
        rw [e] at h1
        have h2 := congrArg List.length h1
        simp [TL.joinL] at h2
        rw [tl_len a, tl_len z]
        have : (tl z).length = z.cps.toList.length := rfl
        have : (tl a).length = a.cps.toList.length := rfl
        simp at *; omega
    · exact .inl rfl
  · exact .inl rfl
theorem lineOf_cases (z : Str) : lineOf z = .none ∨ ∃ (a : Str) (v w : Nat), lineOf z = .tuple [.str a, .int v, .int w] ∧ lineT a v w = z ∧ v < 10 ^ 9 ∧ w < 10 ^ 9 ∧ a.length ≤ z.length ∧ a ≠ "" := by
  unfold lineOf
  split
  · rename_i a b c e
    split
    · rename_i h
      rw [putD_num] at h
      simp only [Bool.and_eq_true] at h
      obtain ⟨⟨⟨hw, _⟩, hn, _⟩, hn'⟩ := h
      refine .inr ⟨a, NumText.digitsVal (tl b), NumText.digitsVal (tl c), by rw [numOf_i hn, numOf_i hn'], ?_, val_lt hn, val_lt hn', ?_, ?_⟩
      · refine TL.ext_tl ?_
        show tl (a ++ "." ++ strI (NumText.digitsVal (tl b) : Nat) ++ "." ++ strI (NumText.digitsVal (tl c) : Nat)) = tl z
        rw [num_back hn, num_back hn', tl_app, tl_app, tl_app, tl_app, tl_pt, ← pts_join z, e]
        simp [TL.joinL]
      · have h1 := pts_join z
        rw [e] at h1
        have h2 := congrArg List.length h1
        simp [TL.joinL] at h2
        rw [tl_len a, tl_len z]
        simp at *; omega
      · intro ea
        subst ea
        have : isWord "" = false := by decide +kernel
        rw [this] at hw; cases hw
    · exact .inl rfl
  · exact .inl rfl
theorem isWord_e : isWord "" = false := by decide +kernel
/-- what a line's word tells -/
theorem lineX_cases {z : Str} : lineX z = .none ∨ ∃ (a : Str) (v w : Int), lineX z = .tuple [.str a, .int v, .int w] ∧ lineTD (.tuple [.str a, .int v, .int w]) = .str z ∧ v.natAbs < 10 ^ 9 ∧ w.natAbs < 10 ^ 9 ∧ a.length ≤ z.length ∧ (a = "" ∨ ∃ v w : Nat, lineOf z = .tuple [.str a, .int v, .int w]) := by
  unfold lineX
  split
  · rename_i h; subst h
    exact .inr ⟨"", 0, 0, rfl, by unfold lineTD; rw [if_pos (by decide +kernel)], by decide, by decide, by decide +kernel, .inl rfl⟩
  · split
    · rename_i h; subst h
      refine .inr ⟨"", 0, 1, rfl, ?_, by decide, by decide, by decide +kernel, .inl rfl⟩
      unfold lineTD; rw [if_neg (by decide +kernel), if_pos (by decide +kernel)]
    · rcases lineOf_cases z with h | ⟨a, v, w, h1, h2, h3, h4, h5, h6⟩
      · exact .inl h
      · refine .inr ⟨a, v, w, h1, ?_, by simpa using h3, by simpa using h4, h5, .inr ⟨v, w, h1⟩⟩
        have e1 : PyData.eqv (.tuple [.str a, .int v, .int w]) headL = false := by
          unfold headL
          rw [PyData.eqv, PyData.eqvAll, eqv_str, decide_eq_false h6]; rfl
        have e2 : PyData.eqv (.tuple [.str a, .int v, .int w]) footL = false := by
          unfold footL
          rw [PyData.eqv, PyData.eqvAll, eqv_str, decide_eq_false h6]; rfl
        unfold lineTD
        rw [e1, e2]
        show PyData.str (lineT a v w) = _
        rw [h2]
theorem sub_app {a z : Str} (h : ∀ c ∈ tl a, c ∈ tl z) (hz : PyData.strOk z = true) : PyData.strOk a = true := strOk_of fun c hc => strOk_mem hz (h c hc)
theorem disp_hf : gMerge [] [((.inr "head" : Key), Sl.d headL), (.inr "foot", .d footL)] = [(.inr "head", Sl.d headL), (.inr "foot", .d footL)] := by
  simp [gMerge, gPut, kk khf]
theorem gVal_hf (z : Str) : gVal [((.inr "head" : Key), Sl.d headL), (.inr "foot", .d footL)] (.inr z) = if z = "head" then some (.d headL) else if z = "foot" then some (.d footL) else none := by
  by_cases h : z = "head"
  · subst h; rw [if_pos rfl]; simp [gVal, List.find?_cons]
  · rw [if_neg h]
    by_cases h2 : z = "foot"
    · subst h2; rw [if_pos rfl]; simp [gVal, List.find?_cons, kk khf]
    · rw [if_neg h2]
      simp [gVal, List.find?_cons, kk (Ne.symm h), kk (Ne.symm h2)]
theorem does__law_one : Does 3 φ__law_one c__law_one := by
  rintro M0 ss post ⟨z, rfl, hx, hp0⟩
  show c__law_one _ M0 [.d (.str z), .n, .n]
  unfold c__law_one
  obtain ⟨hz, hok⟩ := id hx
  walk_at "dl"
  unfold dDisp
  intro p hq
  unfold dPairs dPairs dPairs
  walk_at "dl"
  refine ⟨[.str "", .int 0, .int 0], rfl, sz (by simp), [.str "", .int 0, .int 1], rfl, sz (by simp), mput_same, [(.inr "head", .d headL), (.inr "foot", .d footL)], .cons ⟨⟨_, rfl, rfl⟩, rfl⟩ (.cons ⟨⟨_, rfl, rfl⟩, rfl⟩ .nil), by simp, ?_⟩
  rw [disp_hf, mput_mput]
  refine ⟨p, rfl, .inl ⟨_, mput_same⟩, ?_⟩
  have hpp : Ret post (mput M0 p (.dK [(.inr "head", .d headL), (.inr "foot", .d footL)])) (.d (.bool true)) := ret' (Sub.put (Sub.refl M0) hq) hp0
  have hMp : (mput M0 p (.dK [(.inr "head", .d headL), (.inr "foot", .d footL)])) p = some (.dK [(.inr "head", .d headL), (.inr "foot", .d footL)]) := mput_same
  generalize mput M0 p (.dK [(.inr "head", .d headL), (.inr "foot", .d footL)]) = M at hpp hMp ⊢
  refine ⟨z, 3, rfl, hx, .inr ⟨rfl, ?_⟩⟩
  refine ⟨.str z, (if z = "head" then some (.d headL) else if z = "foot" then some (.d footL) else none), rfl, ?_, ?_⟩
  · unfold GetS; rw [hMp]
    exact ⟨.inr z, rfl, (gVal_hf z).symm⟩
  have el : (if z = "head" then some (Sl.d headL) else if z = "foot" then some (.d footL) else none).getD (.d (lineOf z)) = .d (lineX z) := by
    unfold lineX; split
    · rfl
    · split <;> rfl
  rw [el]
  refine ⟨.d (.str z), rfl, hx.sms.th, ?_⟩
  refine ⟨z, rfl, hx, ?_⟩
  have hsn := shaped_sms (sms_num z)
  refine ρNe_d' hsn hsn ⟨_, rfl, ?_⟩
  show if (!PyData.eqv (numOf z) (numOf z)) = true then _ else _
  rw [eqv_rfl hsn]
  refine iteF ⟨.d (.str z), rfl, hx.sms.th, ?_⟩
  refine ⟨z, 2, rfl, hx, .inl ⟨rfl, ?_⟩⟩
  have hsm := nameOf_sh hx
  refine ρNe_d' hsm hsm ⟨_, rfl, ?_⟩
  show if (!PyData.eqv (nameOf z) (nameOf z)) = true then _ else _
  rw [eqv_rfl hsm]
  have hsl := lineX_sh hx
  refine iteF ⟨.d (.str z), rfl, ⟨hx.sms.th, .inl ⟨_, rfl, shaped_str hok⟩⟩, ?_⟩
  refine ⟨lineX z, lineX z, ?_, rfl, hsl, hsl, _, rfl, ?_⟩
  · show DatOf M (lineOfS (.str z)) _
    rw [lineOfS_str]; unfold lineX; split
    · rfl
    · split <;> rfl
  rw [eqv_rfl hsl]
  refine iteF ?_
  have tail : (dSeq (dIf (dAnd (dB (dOp (ρIsN true) (dCall φ_name_of (dCons (dV 0) dNil)) (dC .none))) (dB (dOp ρNe (dCall φ_name_text (dCons (dCall φ_name_of (dCons (dV 0) dNil)) dNil)) (dV 0)))) (dRet (dC (.bool false))) dNext)
  (dSeq (dSet 2 (dAndV (dCall φ__law_is_word (dCons (dV 0) dNil)) (dOp (ρInF true) (dV 0) (dLst (dCons (dC (.str "head")) (dCons (dC (.str "foot")) (dCons (dC (.str "none")) dNil)))))))
  (dRet (dAndV (dOp ρEq (dCall φ_is_word (dCons (dV 0) dNil)) (dCall φ__law_is_word (dCons (dV 0) dNil))) (dOp ρEq (dCall φ_is_hand (dCons (dV 0) dNil)) (dV 2)))))) { nx := fun M' _ => Ret post M' (.d .none), rt := Ret post } M [.d (.str z), .d (lineX z), .n] := by
    have tail2 : (dSeq (dSet 2 (dAndV (dCall φ__law_is_word (dCons (dV 0) dNil)) (dOp (ρInF true) (dV 0) (dLst (dCons (dC (.str "head")) (dCons (dC (.str "foot")) (dCons (dC (.str "none")) dNil)))))))
  (dRet (dAndV (dOp ρEq (dCall φ_is_word (dCons (dV 0) dNil)) (dCall φ__law_is_word (dCons (dV 0) dNil))) (dOp ρEq (dCall φ_is_hand (dCons (dV 0) dNil)) (dV 2))))) { nx := fun M' _ => Ret post M' (.d .none), rt := Ret post } M [.d (.str z), .d (lineX z), .n] := by
      walk_at "dl"
      have fin : ∀ hd : Bool, hd = isHand z → (∃ s, [Sl.d (.str z)] = [s] ∧ Th M s ∧ (fun M1 s1 => ∃ z_1, [Sl.d (.str z)] = [Sl.d (.str z_1)] ∧ Sx z_1 ∧ (fun M2 s2 => ρEq s1 s2 M2 fun M1 s => ∃ k, s = .d (.bool k) ∧ if k = true then (∃ s, [Sl.d (.str z)] = [s] ∧ Th M1 s ∧ (fun M1 s1 => ρEq s1 (.d (.bool hd)) M1 (Ret post)) M1 (.d (.bool (handD (dOf s))))) else Ret post M1 (.d (.bool false))) M1 (.d (.bool (isWord z_1)))) M (.d (.bool (wordD (dOf s))))) := fun hd eh => by
        refine ⟨_, rfl, hx.sms.th, z, rfl, hx, ρEq_d' (shaped_bool _) (shaped_bool _) ⟨_, rfl, ?_⟩⟩
        show if PyData.eqv (.bool (isWord z)) (.bool (isWord z)) = true then _ else _
        rw [eqv_bool, beq_self_eq_true]
        refine iteT ⟨_, rfl, hx.sms.th, ρEq_d' (shaped_bool _) (shaped_bool _) ?_⟩
        show Ret post M (.d (.bool (PyData.eqv (.bool (isHand z)) (.bool hd))))
        rw [eqv_bool, eh, beq_self_eq_true]
        exact hpp
      refine ⟨z, rfl, hx, _, rfl, ?_⟩
      cases hw : isWord z with
      | false => exact iteF (fin false (by unfold isHand; rw [hw]; rfl))
      | true =>
        refine iteT ⟨[.str "head", .str "foot", .str "none"], rfl, sz (by simp), .str z, resv, rfl, rfl, rfl, ?_⟩
        exact fin _ (by unfold isHand; rw [hw]; rfl)
    show dIf _ _ _ _ _ _
    walk_at "dl"
    refine ⟨.d (.str z), rfl, hx.sms.th, ?_⟩
    rcases nameOf_cases z with h | ⟨a, v, h1, h2, h3, h4⟩
    · refine ⟨true, by show isNon (.d (nameOf z)) = _; rw [h]; rfl, rfl, _, rfl, iteF (iteF tail2)⟩
    · refine ⟨false, by show isNon (.d (nameOf z)) = _; rw [h1]; rfl, rfl, _, rfl, iteT ?_⟩
      refine ⟨.d (.str z), rfl, hx.sms.th, a, v, by show [Sl.d (nameOf z)] = _; rw [h1], by omega, by simpa using h3, ?_⟩
      rw [h2]
      refine ρNe_d' (shaped_str hok) (shaped_str hok) ⟨_, rfl, ?_⟩
      rw [eqv_rfl (shaped_str hok)]
      exact iteF tail2
  rcases lineX_cases (z := z) with h | ⟨a, v, w, h1, h2, h3, h4, h5, h6⟩
  · refine ⟨true, by rw [h]; rfl, rfl, _, rfl, iteF (iteF tail)⟩
  · refine ⟨false, by rw [h1]; rfl, rfl, _, rfl, iteT ?_⟩
    have sa : PyData.strOk a = true := by
      rcases h6 with rfl | ⟨v, w, h6⟩
      · decide +kernel
      · have q := lineOf_sh hx
        rw [h6] at q
        unfold SeqAt.shaped at q
        simp [PyData.canLay0, PyData.canLayAll0] at q
        exact q.1
    refine ⟨a, v, w, by rw [h1], by omega, sa, h3, h4, ?_⟩
    rw [h2]
    refine ρNe_d' (shaped_str hok) (shaped_str hok) ⟨_, rfl, ?_⟩
    rw [eqv_rfl (shaped_str hok)]
    exact iteF tail
end K01
set_option Elab.async false
set_option linter.all false
set_option autoImplicit false
set_option maxRecDepth 100000
set_option maxHeartbeats 4000000
namespace K01
open PySem PySem.Spec PyProof.Rows L2 DL
local macro_rules | `(tactic| walk_at "dl") => `(tactic| try dsimp only [dSeq, dSet, dLstM, dOp, dV, dVs_d, dVs_m, dVs_s, dC, dCc, dCB, dCons, dNil, dLst, dTup, dUn, dB, dTru, dAnd, dOr, dNot, dAndV, dOrV, dNotV, dIfE, dIf, dRet, dExpr, dBM, dVF, dIn, dEnum, dZip, dRng1, dRng2, dPar, dAsg, dCall, dNext, dBreak, dYes, dSl, dPart, dNoP, dRev, dSub, dSubs, dIsi, dChain, dSgn, dM1, dCatR, dGet1, dGet2, Tg.set, setAll_c, setAll_0, wipeS, wkD, wkR, ρAdd_int, ρAdd_str, ρAdd_tup, ρSub_int, ρMul_int, ρMod_int, ρDiv_int, ρPow_int, ρLt_int, ρLe_int, ρGt_int, ρGe_int, ρNeg_int, ρIx_lst, ρIx_tup, ρIx_str, ρIx_scr, ρLen_lst, ρLen_tup, ρLen_str, ρLen_scr, ρMax_2, ρMin_2, ρInt_int, ρInt_bool, ρApp_m, ρTru_b, ρTru_n, ρTru_i, ρTru_l, ρTru_t, ρWk_l, ρWk_t, ρWk_s, ρWk_m, ρWk_tt, ρIx_t, ρLen_t, ρTru_tt, dVs_t, dTupT, dEnumS, dZipS, ρSl_t, ρSl_s, ρSl_c, List.cons_append, List.nil_append, List.length_cons, List.length_nil, List.getElem?_cons_succ, List.getElem?_cons_zero, List.set_cons_succ, List.set_cons_zero, List.map])

def hH : List PyData := [.str "a", .str "none", .str "Bo", .str "", .str "head", .str "abcdefghi", .str "z", .int 7]
def nH : List PyData := [.int 1, .int 999, .int 0, .int 1000, .bool true, .str "1", .int 5, .int (-3)]
def pH : List PyData := [.int 1, .int 0, .int 7, .bool true, .none, .int (10 ^ 30), .str "2", .int (-1)]
def eH : List PyData := [.int 0, .int 1, .bool false, .int 2]
def fH : List PyData := [.int 0, .int 1, .bool true, .bool false]
def smB : PyData → Bool
  | .str z => decide (z.length ≤ 1000) && PyData.strOk z
  | x => scal x
theorem smB.sms {x : PyData} (h : smB x = true) : SmS x := by
  unfold smB at h
  split at h
  · rename_i z
    rw [Bool.and_eq_true, decide_eq_true_eq] at h
    exact ⟨rfl, fun y e => by cases e; exact h⟩
  · rename_i hn
    exact ⟨h, fun z e => absurd e (hn z)⟩
theorem smB_all {l : List PyData} (h : l.all smB = true) : ∀ x ∈ l, SmS x := fun x hx => smB.sms (List.all_eq_true.mp h x hx)
theorem hH_sm : ∀ x ∈ hH, SmS x := smB_all (by decide +kernel)
theorem nH_sm : ∀ x ∈ nH, SmS x := smB_all (by decide +kernel)
theorem pH_sm : ∀ x ∈ pH, SmS x := smB_all (by decide +kernel)
theorem eH_sm : ∀ x ∈ eH, SmS x := smB_all (by decide +kernel)
theorem fH_sm : ∀ x ∈ fH, SmS x := smB_all (by decide +kernel)
def goodB (x y : PyData) : Bool := inF x [.str "a", .str "z"] && (inF y [.int 1, .int 999, .int 5] && !isB y true)
def fitsB (x y w : PyData) : Bool := goodB x y && (inF w [.int 1, .int 7, .int (10 ^ 30)] && !isB w true)
theorem good_eq : ∀ x ∈ hH, ∀ y ∈ nH, nameD (.tuple [x, y]) = goodB x y := by
  have : (hH.all fun x => nH.all fun y => nameD (.tuple [x, y]) == goodB x y) = true := by decide +kernel
  intro x hx y hy
  exact eq_of_beq (List.all_eq_true.mp (List.all_eq_true.mp this x hx) y hy)
theorem fits_eq : ∀ x ∈ hH, ∀ y ∈ nH, ∀ w ∈ pH, putD (.tuple [x, y, w]) = fitsB x y w := by
  have : (hH.all fun x => nH.all fun y => pH.all fun w => putD (.tuple [x, y, w]) == fitsB x y w) = true := by decide +kernel
  intro x hx y hy w hw
  exact eq_of_beq (List.all_eq_true.mp (List.all_eq_true.mp (List.all_eq_true.mp this x hx) y hy) w hw)
def isBo : PyData → Bool
  | .bool _ => true
  | _ => false
def dueB (u w : PyData) : Bool := PyData.eqv (.tuple [.str "", u, w]) (.tuple [.str "", .int 0, w]) && (!isBo u && !isBo w)
theorem due_eq : ∀ u ∈ eH, ∀ w ∈ fH, endD (.tuple [.str "", u, w]) = dueB u w := by
  have : (eH.all fun x => fH.all fun y => endD (.tuple [.str "", x, y]) == dueB x y) = true := by decide +kernel
  intro x hx y hy
  exact eq_of_beq (List.all_eq_true.mp (List.all_eq_true.mp this x hx) y hy)
theorem th_lst {M : MHp} {ds : List PyData} : Th M (.d (.list ds)) := ⟨⟨_, rfl⟩, (fun z e => by cases e), (fun es e => by cases e), fun us e => by cases e⟩
theorem pick_at {L : List PyData} {v : Int} (h0 : 0 ≤ v) (h1 : v < L.length) : ∃ x, x ∈ L ∧ atI L v = some x := by
  have hv : v.toNat < L.length := by omega
  have := atI_at (List.getElem?_eq_getElem hv)
  rw [show ((v.toNat : Nat) : Int) = v by omega] at this
  exact ⟨_, List.getElem_mem hv, this⟩
theorem ev_isiB {M : MHp} {es : List Sl} {τ : DT} {x : PyData} (h : Ev τ M es (.d x)) (hs : SmS x) : Ev (dIsi ["bool"] τ) M es (.d (.bool (isBo x))) := fun post hp => h _ (by
  obtain ⟨h1, _⟩ := hs
  cases x with
  | none => exact ⟨_, rfl, hp⟩
  | bool _ => exact ⟨_, rfl, hp⟩
  | int _ => exact ⟨_, rfl, hp⟩
  | str _ => exact ⟨_, rfl, hp⟩
  | list _ => cases h1
  | tuple _ => cases h1
  | dict _ => cases h1)
theorem sn_d (x : PyData) : Sl.d x ≠ .n := fun e => by cases e
theorem ev_good {M : MHp} {es : List Sl} {x y : PyData} (h1 : es[1]? = some (.d x)) (h2 : es[2]? = some (.d y)) (sx : SmS x) (sy : SmS y) : Ev (dAndV (dOp (ρInF false) (dV 1) (dLst (dCons (dC (.str "a")) (dCons (dC (.str "z")) dNil)))) (dAndV (dOp (ρInF false) (dV 2) (dLst (dCons (dC (.int 1)) (dCons (dC (.int 999)) (dCons (dC (.int 5)) dNil))))) (dOp (ρIsB true) (dV 2) (dC (.bool true))))) M es (.d (.bool (goodB x y))) :=
  ev_andV (ev_op (ev_V h1 (sn_d _)) (ev_lst (ds := [.str "a", .str "z"]) (ev_cons ev_C (ev_cons ev_C ev_nil)) (by simp)) (r_inF (neg := false) (flat_scal sx.1) rfl rfl)) fun _ =>
    ev_andV (ev_op (ev_V h2 (sn_d _)) (ev_lst (ds := [.int 1, .int 999, .int 5]) (ev_cons ev_C (ev_cons ev_C (ev_cons ev_C ev_nil))) (by simp)) (r_inF (neg := false) (flat_scal sy.1) rfl rfl)) fun _ =>
      ev_op (ev_V h2 (sn_d _)) ev_C fun post hp => ⟨sy.1, hp⟩
theorem ev_pow30 {M : MHp} {es : List Sl} : Ev (dOp ρPow (dC (.int 10)) (dC (.int 30))) M es (.d (.int (10 ^ 30))) := ev_op ev_C ev_C fun post hp => ⟨⟨by decide, by decide, by decide⟩, hp⟩
theorem ev_fits {M : MHp} {es : List Sl} {x y w : PyData} (h3 : es[3]? = some (.d w)) (h4 : es[4]? = some (.d (.bool (goodB x y)))) (sw : SmS w) : Ev (dAndV (dV 4) (dAndV (dOp (ρInF false) (dV 3) (dLst (dCons (dC (.int 1)) (dCons (dC (.int 7)) (dCons (dOp ρPow (dC (.int 10)) (dC (.int 30))) dNil))))) (dOp (ρIsB true) (dV 3) (dC (.bool true))))) M es (.d (.bool (fitsB x y w))) :=
  ev_andV (ev_V h4 (sn_d _)) fun _ =>
    ev_andV (ev_op (ev_V h3 (sn_d _)) (ev_lst (ds := [.int 1, .int 7, .int (10 ^ 30)]) (ev_cons ev_C (ev_cons ev_C (ev_cons ev_pow30 ev_nil))) (by simp)) (r_inF (neg := false) (flat_scal sw.1) rfl rfl)) fun _ =>
      ev_op (ev_V h3 (sn_d _)) ev_C fun post hp => ⟨sw.1, hp⟩
theorem ev_is_name {M : MHp} {es : List Sl} {α : DA} {s : Sl} (h : EvA α M es [s]) (ht : Th M s) : Ev (dCall φ_is_name α) M es (.d (.bool (nameD (dOf s)))) := ev_call h fun post hp => ⟨s, rfl, ht, hp⟩
theorem ev_is_put {M : MHp} {es : List Sl} {α : DA} {s : Sl} (h : EvA α M es [s]) (ht : Th M s) : Ev (dCall φ_is_put_line α) M es (.d (.bool (putD (dOf s)))) := ev_call h fun post hp => ⟨s, rfl, ht, hp⟩
theorem ev_is_end {M : MHp} {es : List Sl} {α : DA} {s : Sl} (h : EvA α M es [s]) (ht : Th M s) : Ev (dCall φ_is_end α) M es (.d (.bool (endD (dOf s)))) := ev_call h fun post hp => ⟨s, rfl, ht, hp⟩
theorem ev_list {M : MHp} {es : List Sl} {τ : DT} {ds : List PyData} (h : Ev τ M es (.d (.tuple ds))) : Ev (dCB (ρList false) (dCons τ dNil)) M es (.d (.list ds)) := ev_cb (ev_cons h ev_nil) fun post hp => ⟨_, ds, rfl, .inr rfl, iteF hp⟩
theorem mem2 {P : PyData → Prop} {a b : PyData} (h1 : P a) (h2 : P b) : ∀ d ∈ [a, b], P d := by simp; exact ⟨h1, h2⟩
theorem mem3 {P : PyData → Prop} {a b c : PyData} (h1 : P a) (h2 : P b) (h3 : P c) : ∀ d ∈ [a, b, c], P d := by simp; exact ⟨h1, h2, h3⟩
theorem r_neb {M : MHp} {a b : Bool} : ∀ post : DP, post M (.d (.bool (!(a == b)))) → ρNe (.d (.bool a)) (.d (.bool b)) M post := fun post hp => r_ne (shaped_bool _) (shaped_bool _) post hp
theorem r_eqb {M : MHp} {a b : Bool} : ∀ post : DP, post M (.d (.bool (a == b))) → ρEq (.d (.bool a)) (.d (.bool b)) M post := fun post hp => r_eq (shaped_bool _) (shaped_bool _) post hp
theorem dd {p : Addr} {M : MHp} {l m n : Int} {post : DP} (hM : M p = some (.dK (stt l m))) (l0 : 0 ≤ l) (m0 : 0 ≤ m) (n0 : 0 < n) (n1 : n < 2 ^ 60) (hp : ∀ l' m' v, 0 ≤ l' → 0 ≤ m' → 0 ≤ v → v < n → post (mput M p (.dK (stt l' m'))) (.d (.int v))) : φ__law_digit M [.m p, .d (.int n)] post := ⟨p, l, m, n, rfl, hM, l0, m0, n0, n1, hp⟩
theorem ev_neg {M : MHp} {es : List Sl} {i : Int} : Ev (dUn ρNeg (dC (.int i))) M es (.d (.int (-i))) := fun _ hp => hp
theorem pick_set {i : Nat} {τl : DT} {L : List PyData} {n : Int} {p : Addr} {l m : Int} {D : DE} {M : MHp} {es : List Sl} (hl : Ev τl M es (.d (.list L))) (h0 : es[0]? = some (.m p)) (hM : M p = some (.dK (stt l m))) (l0 : 0 ≤ l) (m0 : 0 ≤ m) (hn : n = L.length) (hpos : 0 < L.length) (hsm : L.length ≤ 1000)
    (hk : ∀ l' m' x, 0 ≤ l' → 0 ≤ m' → x ∈ L → D.nx (mput M p (.dK (stt l' m'))) (es.set i (.d x))) : dSet i (dOp ρIx τl (dCall φ__law_digit (dCons (dV 0) (dCons (dC (.int n)) dNil)))) D M es := by
  refine hl _ ((ev_cons (ev_V h0 (fun e => by cases e)) (ev_cons ev_C ev_nil)) _ (dd (n := n) hM l0 m0 (by omega) (by omega) fun l' m' v l0' m0' v0 v1 => ?_))
  obtain ⟨x, hx, ex⟩ := pick_at (L := L) v0 (by omega)
  exact ⟨x, ex, hk l' m' x l0' m0' hx⟩
theorem sn_m (a : Addr) : Sl.m a ≠ .n := fun e => by cases e
theorem does__law_things : Does 9 φ__law_things c__law_things := by
  rintro M ss post ⟨p, l, m, rfl, hM, l0, m0, hp⟩
  show c__law_things _ M [.m p, .n, .n, .n, .n, .n, .n, .n, .n]
  unfold c__law_things
  refine st_seq (pick_set (L := hH) (ev_lst (ds := hH) (ev_cons ev_C (ev_cons ev_C (ev_cons ev_C (ev_cons ev_C (ev_cons ev_C (ev_cons ev_C (ev_cons ev_C (ev_cons ev_C ev_nil)))))))) (by decide)) rfl hM l0 m0 rfl (by decide) (by decide) fun l m x l0 m0 hx => ?_)
  dsimp only [List.set_cons_succ, List.set_cons_zero, dNext]
  refine st_seq (pick_set (L := nH) (ev_lst (ds := nH) (ev_cons ev_C (ev_cons ev_C (ev_cons ev_C (ev_cons ev_C (ev_cons ev_C (ev_cons ev_C (ev_cons ev_C (ev_cons ev_neg ev_nil)))))))) (by decide)) rfl mput_same l0 m0 rfl (by decide) (by decide) fun l m y l0 m0 hy => ?_)
  dsimp only [List.set_cons_succ, List.set_cons_zero, dNext]
  rw [mput_mput]
  refine st_seq (pick_set (L := pH) (ev_lst (ds := pH) (ev_cons ev_C (ev_cons ev_C (ev_cons ev_C (ev_cons ev_C (ev_cons ev_C (ev_cons ev_pow30 (ev_cons ev_C (ev_cons ev_neg ev_nil)))))))) (by decide)) rfl mput_same l0 m0 rfl (by decide) (by decide) fun l m w l0 m0 hw => ?_)
  dsimp only [List.set_cons_succ, List.set_cons_zero, dNext]
  rw [mput_mput]
  have sx := hH_sm x hx
  have sy := nH_sm y hy
  have sw := pH_sm w hw
  have hfin : ∀ l m, 0 ≤ l → 0 ≤ m → Ret post (mput M p (.dK (stt l m))) (.d (.bool true)) := fun l m l0 m0 => ret (hp l m l0 m0)
  have hMp : (mput M p (.dK (stt l m))) p = some (.dK (stt l m)) := mput_same
  have hmm : ∀ o, mput (mput M p (.dK (stt l m))) p o = mput M p o := fun o => mput_mput
  generalize mput M p (.dK (stt l m)) = M1 at hMp hmm ⊢
  refine st_seq (st_set (ev_good rfl rfl sx sy) ?_)
  dsimp only [List.set_cons_succ, List.set_cons_zero, dNext]
  refine st_seq ?_
  refine st_if (b := false) (evT_to (evT_or (evT_b (ev_op (ev_is_name (ev_cons (ev_tup (ds := [x, y]) (ev_cons (ev_V rfl (sn_d _)) (ev_cons (ev_V rfl (sn_d _)) ev_nil)) (by simp)) ev_nil) (th_tup (by simp) (mem2 sx sy))) (ev_V rfl (sn_d _)) r_neb)) fun _ =>
    evT_or (evT_tru (ev_is_name (ev_cons (ev_lst (ds := [x, y]) (ev_cons (ev_V rfl (sn_d _)) (ev_cons (ev_V rfl (sn_d _)) ev_nil)) (by simp)) ev_nil) th_lst)) fun _ =>
      evT_tru (ev_is_name (ev_cons (ev_tup (ds := [x, y, w]) (ev_cons (ev_V rfl (sn_d _)) (ev_cons (ev_V rfl (sn_d _)) (ev_cons (ev_V rfl (sn_d _)) ev_nil))) (by simp)) ev_nil) (th_tup (by simp) (mem3 sx sy sw)))) (by
        show (!(nameD (.tuple [x, y]) == goodB x y) || (false || false)) = false
        rw [good_eq x hx y hy, beq_self_eq_true]; rfl)) (fun e => by cases e) fun _ => ?_
  dsimp only [List.set_cons_succ, List.set_cons_zero, dNext]
  refine st_seq (st_set (ev_fits (x := x) (y := y) rfl rfl sw) ?_)
  dsimp only [List.set_cons_succ, List.set_cons_zero, dNext]
  refine st_seq (st_set (ev_tup (ds := [x, y, w]) (ev_cons (ev_V rfl (sn_d _)) (ev_cons (ev_V rfl (sn_d _)) (ev_cons (ev_V rfl (sn_d _)) ev_nil))) (by simp)) ?_)
  dsimp only [List.set_cons_succ, List.set_cons_zero, dNext]
  refine st_seq ?_
  refine st_if (b := false) (evT_to (evT_or (evT_b (ev_op (ev_is_put (ev_cons (ev_V rfl (sn_d _)) ev_nil) (th_tup (by simp) (mem3 sx sy sw))) (ev_V rfl (sn_d _)) r_neb)) fun _ =>
    evT_or (evT_tru (ev_is_put (ev_cons (ev_list (ev_V rfl (sn_d _))) ev_nil) th_lst)) fun _ =>
      evT_tru (ev_is_put (s := .d (.tuple [x, y])) (ev_cons (fun post hp => by
        walk_at "dl"
        refine ⟨2, rfl, ?_⟩
        show post M1 (.d (.tuple (DL.cutD [x, y, w] none (some 2))))
        rw [cut2]; exact hp) ev_nil) (th_tup (by simp) (mem2 sx sy)))) (by
        show (!(putD (.tuple [x, y, w]) == fitsB x y w) || (false || false)) = false
        rw [fits_eq x hx y hy w hw, beq_self_eq_true]; rfl)) (fun e => by cases e) fun _ => ?_
  dsimp only [List.set_cons_succ, List.set_cons_zero, dNext]
  unfold c__law_things_b2
  refine st_seq ?_
  walk_at "dl"
  refine ⟨eH, rfl, sz (by decide), dd hMp l0 m0 (by decide) (by decide) fun l m v l0 m0 v0 v1 => ?_⟩
  obtain ⟨u, hu, eu⟩ := pick_at (L := eH) v0 v1
  refine ⟨u, eu, ?_⟩
  rw [hmm]
  refine ⟨fH, rfl, sz (by decide), dd mput_same l0 m0 (by decide) (by decide) fun l m v l0 m0 v0 v1 => ?_⟩
  obtain ⟨t, ht, et⟩ := pick_at (L := fH) v0 v1
  refine ⟨t, et, ?_⟩
  rw [mput_mput]
  refine ⟨[.str "", u, t], rfl, sz (by simp), ?_⟩
  unfold c__law_things_b1
  refine st_seq ?_
  have su := eH_sm u hu
  have st := fH_sm t ht
  have s0 : SmS (.str "") := smB.sms (by decide +kernel)
  have hfin2 := hfin l m l0 m0
  generalize mput M p (.dK (stt l m)) = M2 at hfin2 ⊢
  have s3 := mem3 (P := SmS) s0 su st
  have ev7 : ∀ (i : Nat) d, [PyData.str "", u, t][i]? = some d → Ev (dOp ρIx (dV 7) (dC (.int (i : Nat)))) M2 [.m p, .d x, .d y, .d w, .d (.bool (goodB x y)), .d (.bool (fitsB x y w)), .d (.tuple [x, y, w]), .d (.tuple [.str "", u, t]), .n] (.d d) := fun i d h => ev_op (ev_V rfl (sn_d _)) ev_C (r_ixt h)
  refine st_set (show Ev (dAndV _ _) M2 [.m p, .d x, .d y, .d w, .d (.bool (goodB x y)), .d (.bool (fitsB x y w)), .d (.tuple [x, y, w]), .d (.tuple [.str "", u, t]), .n] (.d (.bool (dueB u t))) from
    ev_andV (ev_op (ev_V rfl (sn_d _)) (ev_tup (ds := [.str "", .int 0, t]) (ev_cons ev_C (ev_cons ev_C (ev_cons (ev7 2 t rfl) ev_nil))) (by simp)) (r_eq (shaped_tup s3) (shaped_tup (mem3 s0 (sms_int 0) st)))) fun _ =>
      ev_andV (ev_notV (ev_isiB (ev7 1 u rfl) su)) fun _ => ev_notV (ev_isiB (ev7 2 t rfl) st)) ?_
  dsimp only [List.set_cons_succ, List.set_cons_zero, dNext]
  refine st_ret (ev_to (ev_andV (ev_op (ev_is_end (ev_cons (ev_V rfl (sn_d _)) ev_nil) (th_tup (by simp) s3)) (ev_V rfl (sn_d _)) r_eqb) fun _ =>
    ev_andV (ev_notV (ev_is_end (ev_cons (ev_list (ev_V rfl (sn_d _))) ev_nil) th_lst)) fun _ =>
      ev_andV (ev_notV (ev_is_end (ev_cons (ev_tup (ds := [.str "a", .int 0, .int 0]) (ev_cons ev_C (ev_cons ev_C (ev_cons ev_C ev_nil))) (by simp)) ev_nil) (th_tup (by simp) (mem3 (smB.sms (by decide +kernel)) (sms_int 0) (sms_int 0))))) fun _ =>
        ev_notV (ev_is_end (ev_cons (ev_tup (ds := [.str "", .int 0]) (ev_cons ev_C (ev_cons ev_C ev_nil)) (by simp)) ev_nil) (th_tup (by simp) (mem2 s0 (sms_int 0))))) (by
        show Sl.d (.bool ((endD (.tuple [.str "", u, t]) == dueB u t) && (!false && (!endD (.tuple [.str "a", .int 0, .int 0]) && !false)))) = .d (.bool true)
        have e1 : endD (.tuple [.str "a", .int 0, .int 0]) = false := by decide +kernel
        rw [due_eq u hu t ht, beq_self_eq_true, e1]; rfl)) ?_
  exact hfin2
end K01
set_option Elab.async false
set_option linter.all false
set_option autoImplicit false
set_option maxRecDepth 100000
set_option maxHeartbeats 4000000
namespace K01
open PySem PySem.Spec PyProof.Rows L2 DL
local macro_rules | `(tactic| walk_at "dl") => `(tactic| try dsimp only [dSeq, dSet, dLstM, dOp, dV, dVs_d, dVs_m, dVs_s, dC, dCc, dCB, dCons, dNil, dLst, dTup, dUn, dB, dTru, dAnd, dOr, dNot, dAndV, dOrV, dNotV, dIfE, dIf, dRet, dExpr, dBM, dVF, dIn, dEnum, dZip, dRng1, dRng2, dPar, dAsg, dCall, dNext, dBreak, dYes, dSl, dPart, dNoP, dRev, dSub, dSubs, dIsi, dChain, dSgn, dM1, dCatR, dGet1, dGet2, Tg.set, setAll_c, setAll_0, wipeS, wkD, wkR, ρAdd_int, ρAdd_str, ρAdd_tup, ρSub_int, ρMul_int, ρMod_int, ρDiv_int, ρPow_int, ρLt_int, ρLe_int, ρGt_int, ρGe_int, ρNeg_int, ρIx_lst, ρIx_tup, ρIx_str, ρIx_scr, ρLen_lst, ρLen_tup, ρLen_str, ρLen_scr, ρMax_2, ρMin_2, ρInt_int, ρInt_bool, ρApp_m, ρTru_b, ρTru_n, ρTru_i, ρTru_l, ρTru_t, ρWk_l, ρWk_t, ρWk_s, ρWk_m, ρWk_tt, ρIx_t, ρLen_t, ρTru_tt, dVs_t, dTupT, dEnumS, dZipS, ρSl_t, ρSl_s, ρSl_c, List.cons_append, List.nil_append, List.length_cons, List.length_nil, List.getElem?_cons_succ, List.getElem?_cons_zero, List.set_cons_succ, List.set_cons_zero, List.map])

theorem sum_le {l : List Nat} {k : Nat} (h : ∀ x ∈ l, x ≤ k) : l.sum ≤ l.length * k := by
  induction l with
  | nil => simp
  | cons a l ih =>
    have := ih fun x hx => h x (List.mem_cons_of_mem _ hx)
    have := h a (List.mem_cons_self ..)
    rw [List.sum_cons, List.length_cons, Nat.add_mul]; omega
theorem joinL_len (S : List Nat) : ∀ ls : List (List Nat), (TL.joinL S ls).length ≤ (ls.map List.length).sum + ls.length * S.length
  | [] => by simp [TL.joinL]
  | [l] => by simp [TL.joinL]
  | l :: k :: r => by
    have := joinL_len S (k :: r)
    show (l ++ (S ++ TL.joinL S (k :: r))).length ≤ _
    rw [List.length_append, List.length_append, List.map_cons, List.sum_cons, List.length_cons (as := k :: r), Nat.add_mul]
    omega
theorem joinL_sub (S : List Nat) : ∀ ls : List (List Nat), ∀ c ∈ TL.joinL S ls, c ∈ S ∨ ∃ l ∈ ls, c ∈ l
  | [], c, h => by simp [TL.joinL] at h
  | [l], c, h => .inr ⟨l, by simp, by simpa [TL.joinL] using h⟩
  | l :: k :: r, c, h => by
    have h : c ∈ l ++ (S ++ TL.joinL S (k :: r)) := h
    rcases List.mem_append.mp h with h | h
    · exact .inr ⟨l, by simp, h⟩
    · rcases List.mem_append.mp h with h | h
      · exact .inl h
      · rcases joinL_sub S (k :: r) c h with h | ⟨x, hx, h⟩
        · exact .inl h
        · exact .inr ⟨x, List.mem_cons_of_mem _ hx, h⟩
theorem row_tl (ws : List Str) : tl (Txt.join " " ws) = TL.joinL [32] (ws.map tl) := by
  rw [TL.join_eq]
  have := TL.tl_join " " ws
  rw [show TL.tl " " = [32] from tl_bl] at this
  exact this
theorem row_len {ws : List Str} (h : ∀ w ∈ ws, Wd w) (hl : ws.length ≤ 100) : (Txt.join " " ws).length ≤ 10200 ∧ (ws.map (·.length)).sum ≤ 10000 := by
  have h1 : (ws.map (·.length)).sum ≤ 10000 := by
    have := sum_le (l := ws.map (·.length)) (k := 100) fun x hx => by
      obtain ⟨w, hw, rfl⟩ := List.mem_map.mp hx
      exact (h w hw).len
    rw [List.length_map] at this; omega
  refine ⟨?_, h1⟩
  rw [tl_len, row_tl]
  have := joinL_len [32] (ws.map tl)
  rw [List.map_map, List.length_map] at this
  have e : (ws.map (List.length ∘ tl)) = ws.map (·.length) := List.map_congr_left fun y _ => (tl_len y).symm
  rw [e] at this
  simp at this; omega
theorem row_ok {ws : List Str} (h : ∀ w ∈ ws, Wd w) : PyData.strOk (Txt.join " " ws) = true := strOk_of fun c hc => by
  rw [row_tl] at hc
  rcases joinL_sub _ _ c hc with h1 | ⟨l, hl, h1⟩
  · have : c = 32 := by simpa using h1
    omega
  · obtain ⟨w, hw, rfl⟩ := List.mem_map.mp hl
    exact strOk_mem (h w hw).ok h1
theorem row_words {ws : List Str} (h : ∀ w ∈ ws, Wd w) (hne : ws ≠ []) : wds (Txt.join " " ws) = ws := TL.split_join (s := 32) (S := []) tl_bl (by decide +kernel) hne fun w hw => (h w hw).nb
theorem row_wok {ws : List Str} (h : ∀ w ∈ ws, Wd w) (hne : ws ≠ []) : wordsOk (Txt.join " " ws) = true := by
  unfold wordsOk
  rw [row_words h hne]
  have : inF (.str "") (ws.map PyData.str) = false := by
    unfold inF
    rw [List.any_eq_false]
    intro x hx
    obtain ⟨w, hw, rfl⟩ := List.mem_map.mp hx
    rw [eqv_str, decide_eq_true_eq]
    intro e; subst e
    exact (h _ hw).ne tl_e
  rw [this]; rfl
theorem Wd.sms {w : Str} (h : Wd w) : SmS (.str w) := (Sx.mk (by have := h.len; omega) h.ok).sms
theorem ws_sh {ws : List Str} (h : ∀ w ∈ ws, SmS (.str w)) : SeqAt.shaped (.list (ws.map PyData.str)) = true := shaped_lst fun d hd => by
  obtain ⟨w, hw, rfl⟩ := List.mem_map.mp hd
  exact h w hw
theorem cutS_tl (z : Str) (lo hi : Option Int) : ∀ c ∈ tl (cutS z lo hi), c ∈ tl z := by
  intro c hc
  have e : tl (cutS z lo hi) = (((tl z).drop (HT.sIx z.length 0 lo)).take (HT.sIx z.length z.length hi - HT.sIx z.length 0 lo)) := by
    first | rfl | (unfold cutS; simp [tl])
  rw [e] at hc
  exact List.mem_of_mem_drop (List.mem_of_mem_take hc)
theorem len_bl : (" " : Str).length = 1 := by decide +kernel
theorem does__law_row : Does 7 φ__law_row c__law_row := by
  rintro M ss post ⟨ws, n, rfl, hne, hl, hw, hp⟩
  show c__law_row _ M [.d (.list (ws.map PyData.str)), .d (.int n), .n, .n, .n, .n, .n]
  unfold c__law_row
  obtain ⟨hr, hs⟩ := row_len hw hl
  have hok := row_ok hw
  have hwd := row_words hw hne
  have hwo := row_wok hw hne
  have hsh := ws_sh fun w h => (hw w h).sms
  refine st_seq ?_
  refine st_set (s := .d (.str (Txt.join " " ws))) (fun post hp => ⟨⟨_, rfl⟩, " ", ws, rfl, .inl rfl, by rw [len_bl]; omega, hp⟩) ?_
  generalize Txt.join " " ws = row at hr hok hwd hwo ⊢
  dsimp only [List.set_cons_succ, List.set_cons_zero]
  refine st_seq ?_
  unfold dFor
  refine ⟨2, rfl, ⟨by decide, by decide⟩, fun i M' es' => Sub M M' ∧ ∃ s3 s4, es' = [.d (.list (ws.map PyData.str)), .d (.int n), .d (.str row), s3, s4, .n, .n], ⟨Sub.refl M, _, _, rfl⟩, fun _ _ _ _ _ => trivial, ?_, ?_⟩
  · rintro i M' es' hi ⟨hsub, s3, s4, rfl⟩
    unfold c__law_row_b1
    walk_at "dl"
    refine ⟨_, rfl, ⟨_, rfl⟩, .inr ⟨row, rfl, by omega, (fun e => by rw [hwo] at e; cases e), fun _ p hp0 => ?_⟩⟩
    rw [hwd]
    have ty : tyN (mput M' p (.lst ((ws.map PyData.str).map Sl.d))) (.m p) "list" := by
      show (match mput M' p _ p with | some (.lst _) => _ | some (.dK _) => _ | some (.dT _) => _ | _ => False)
      rw [mput_same]
    refine ⟨"list", ty, iteF ?_⟩
    refine ⟨.list (ws.map PyData.str), .list (ws.map PyData.str), ⟨_, rfl, mput_same⟩, rfl, hsh, hsh, _, rfl, ?_⟩
    rw [eqv_rfl hsh]
    refine iteF ⟨.inl ⟨rfl, _, mput_same⟩, ?_⟩
    refine ⟨_, mput_same, szl (by simp; omega), ?_, _, _, rfl⟩
    rw [mput_mput]
    exact Sub.put hsub hp0
  · rintro M' es' ⟨hsub, s3, s4, rfl⟩
    walk_at "dl"
    refine ⟨sz (by omega), by omega, ?_⟩
    generalize n % ((row.length : Int) + 1) = at_
    refine ⟨_, rfl, sz (by omega), ?_⟩
    have c1 := cutS_length row none (some at_)
    have c2 := cutS_length row (some at_) none
    refine ⟨sz (by rw [len_bl]; omega), _, rfl, sz (by omega), ?_⟩
    refine ⟨sz (by rw [len_app, len_bl]; omega), ?_⟩
    have hlen : (cutS row none (some at_) ++ " " ++ cutS row (some at_) none).length ≤ 30000 := by rw [len_app, len_app, len_bl]; omega
    have hok2 : PyData.strOk (cutS row none (some at_) ++ " " ++ cutS row (some at_) none) = true := strOk_of fun c hc => by
      rw [tl_app, tl_app, tl_bl] at hc
      simp only [List.mem_append, List.mem_singleton] at hc
      rcases hc with (hc | hc) | hc
      · exact strOk_mem hok (cutS_tl _ _ _ c hc)
      · omega
      · exact strOk_mem hok (cutS_tl _ _ _ c hc)
    refine ⟨⟨_, rfl⟩, _, " ", rfl, rfl, by decide +kernel, sz (by omega), iteF ?_⟩
    refine ⟨_, rfl, sz (by omega), ?_⟩
    refine ⟨sz (by rw [len_bl]; omega), _, rfl, sz (by omega), ?_⟩
    refine ⟨sz (by rw [len_app, len_bl]; omega), ?_⟩
    generalize cutS row none (some at_) ++ " " ++ cutS row (some at_) none = r2 at hlen hok2 ⊢
    have hwsh : SeqAt.shaped (.list ((wds r2).map PyData.str)) = true := by
      have key : ∀ l : List Str, (∀ w ∈ l, PyData.strOk w = true) → PyData.canLayAll0 (l.map PyData.str) = true ∧ PyData.depthAll (l.map PyData.str) = 0 := fun l => by
        induction l with
        | nil => exact fun _ => ⟨rfl, rfl⟩
        | cons a l ih =>
          intro h
          obtain ⟨i1, i2⟩ := ih fun w hw => h w (List.mem_cons_of_mem _ hw)
          refine ⟨?_, ?_⟩
          · show PyData.canLayAll0 (.str a :: l.map PyData.str) = true
            rw [PyData.canLayAll0, i1, PyData.canLay0, h a (List.mem_cons_self ..)]; rfl
          · show PyData.depthAll (.str a :: l.map PyData.str) = 0
            rw [PyData.depthAll, i2]; rfl
      obtain ⟨i1, i2⟩ := key (wds r2) fun w hw => strOk_of fun c hc => strOk_mem hok2 ((split_sub (c := 32) (by decide +kernel) (by decide +kernel) hw).2 c hc)
      unfold SeqAt.shaped; rw [PyData.canLay0, i1, PyData.depth, i2]; rfl
    refine ⟨_, rfl, ⟨_, rfl⟩, .inr ⟨r2, rfl, by omega, fun e => ?_, fun e p hp0 => ?_⟩⟩
    · refine ⟨.str "", (wds r2).map PyData.str, rfl, rfl, all_scal _, _, rfl, ?_⟩
      show if inF (.str "") ((wds r2).map PyData.str) = true then _ else _
      have e : inF (.str "") ((wds r2).map PyData.str) = true := by unfold wordsOk at e; simpa using e
      rw [e]
      exact iteT (ρEq_d' shaped_non shaped_non (ret' hsub hp))
    · refine ⟨.str "", (wds r2).map PyData.str, rfl, rfl, all_scal _, _, rfl, ?_⟩
      show if inF (.str "") ((wds r2).map PyData.str) = true then _ else _
      have e : inF (.str "") ((wds r2).map PyData.str) = false := by unfold wordsOk at e; simpa using e
      rw [e]
      refine iteF ⟨.list ((wds r2).map PyData.str), .list ((wds r2).map PyData.str), ⟨_, rfl, mput_same⟩, rfl, hwsh, hwsh, ?_⟩
      rw [eqv_rfl hwsh]
      exact ret' (Sub.put hsub hp0) hp
end K01
set_option Elab.async false
set_option linter.all false
set_option autoImplicit false
set_option maxRecDepth 100000
set_option maxHeartbeats 4000000
namespace K01
open PySem PySem.Spec PyProof.Rows L2 DL
local macro_rules | `(tactic| walk_at "dl") => `(tactic| try dsimp only [dSeq, dSet, dLstM, dOp, dV, dVs_d, dVs_m, dVs_s, dC, dCc, dCB, dCons, dNil, dLst, dTup, dUn, dB, dTru, dAnd, dOr, dNot, dAndV, dOrV, dNotV, dIfE, dIf, dRet, dExpr, dBM, dVF, dIn, dEnum, dZip, dRng1, dRng2, dPar, dAsg, dCall, dNext, dBreak, dYes, dSl, dPart, dNoP, dRev, dSub, dSubs, dIsi, dChain, dSgn, dM1, dCatR, dGet1, dGet2, Tg.set, setAll_c, setAll_0, wipeS, wkD, wkR, ρAdd_int, ρAdd_str, ρAdd_tup, ρSub_int, ρMul_int, ρMod_int, ρDiv_int, ρPow_int, ρLt_int, ρLe_int, ρGt_int, ρGe_int, ρNeg_int, ρIx_lst, ρIx_tup, ρIx_str, ρIx_scr, ρLen_lst, ρLen_tup, ρLen_str, ρLen_scr, ρMax_2, ρMin_2, ρInt_int, ρInt_bool, ρApp_m, ρTru_b, ρTru_n, ρTru_i, ρTru_l, ρTru_t, ρWk_l, ρWk_t, ρWk_s, ρWk_m, ρWk_tt, ρIx_t, ρLen_t, ρTru_tt, dVs_t, dTupT, dEnumS, dZipS, ρSl_t, ρSl_s, ρSl_c, List.cons_append, List.nil_append, List.length_cons, List.length_nil, List.getElem?_cons_succ, List.getElem?_cons_zero, List.set_cons_succ, List.set_cons_zero, List.map])

theorem strOk_app {a b : Str} (ha : PyData.strOk a = true) (hb : PyData.strOk b = true) : PyData.strOk (a ++ b) = true := strOk_of fun c hc => by
  rw [tl_app] at hc
  rcases List.mem_append.mp hc with h | h
  · exact strOk_mem ha h
  · exact strOk_mem hb h
theorem strOk_num (n : Nat) : PyData.strOk (strI n) = true := strOk_of fun c hc => by
  have e : tl (strI n) = TL.numL n := TL.tl_num n
  rw [e] at hc
  have := TL.numL_digits n c hc
  omega
theorem sx_num {v : Int} (h0 : 0 ≤ v) (h1 : v < 10 ^ 9) : Sx (strI v) := by
  obtain ⟨k, rfl⟩ := Int.eq_ofNat_of_zero_le h0
  have := num_len (n := k) (by omega)
  exact ⟨by omega, strOk_num k⟩
theorem len_num {v : Int} (h0 : 0 ≤ v) (h1 : v < 10 ^ 9) : (strI v).length ≤ 9 := by
  obtain ⟨k, rfl⟩ := Int.eq_ofNat_of_zero_le h0
  exact num_len (n := k) (by omega)
/-- blanks taken out -/
theorem no_bl : ∀ l : List Nat, 32 ∉ StrLaws.replL [32] [] l ∧ ∀ c ∈ StrLaws.replL [32] [] l, c ∈ l := by
  intro l
  induction l with
  | nil => rw [StrLaws.replL_nil]; simp
  | cons c r ih =>
    by_cases h : c = 32
    · subst h
      rw [StrLaws.replL_hit (by simp) (by simp)]
      simp only [List.nil_append, List.length_singleton, List.drop_one, List.tail_cons]
      exact ⟨ih.1, fun d hd => List.mem_cons_of_mem _ (ih.2 d hd)⟩
    · rw [StrLaws.replL_miss (by simpa using h)]
      refine ⟨fun hm => ?_, fun d hd => ?_⟩
      · rcases List.mem_cons.mp hm with e | e
        · exact h e.symm
        · exact ih.1 e
      · rcases List.mem_cons.mp hd with e | e
        · rw [e]; exact List.mem_cons_self ..
        · exact List.mem_cons_of_mem _ (ih.2 d e)
theorem repl_tl (w : Str) : tl (Txt.replace w " " "") = StrLaws.replL [32] [] (tl w) := by
  have := StrLaws.replace_list (x := w) (y := " ") (z := "") (by rw [len_bl]; exact Nat.le_refl 1)
  rw [show (" " : Str).cps.toList = [32] from tl_bl, show ("" : Str).cps.toList = [] from tl_e] at this
  exact this
theorem tl_a : tl "a" = [97] := by decide +kernel
theorem len_a : ("a" : Str).length = 1 := by decide +kernel
theorem wd_of {w : Str} (h : w.length ≤ 10) (hok : PyData.strOk w = true) : Wd ("a" ++ Txt.replace w " " "") := by
  have hl : (Txt.replace w " " "").length ≤ w.length + (w.length + 1) * ("" : Str).length := TK.replace_len w " " ""
  have e0 : ("" : Str).length = 0 := by decide +kernel
  rw [e0] at hl
  refine ⟨by rw [len_app, len_a]; omega, strOk_app (by decide +kernel) (strOk_of fun c hc => ?_), ?_, ?_⟩
  · rw [repl_tl] at hc
    exact strOk_mem hok ((no_bl _).2 c hc)
  · rw [tl_app, tl_a]; simp
  · rw [tl_app, tl_a, repl_tl]
    intro hm
    rcases List.mem_append.mp hm with e | e
    · simp at e
    · exact (no_bl _).1 e
/-- the odd things -/
structure OdS (M : MHp) (s : Sl) (r : Int) : Prop where
  od : Odd M s
  ns : ∀ z, dOf s ≠ .str z
  nt : ∀ a b, dOf s ≠ .tuple [a, b]
  n3 : ∀ a b c, dOf s ≠ .tuple [a, b, c]
  wh : wholeD (dOf s) = inF (.int r) [.int 2, .int 7]
  am : amongD (dOf s) (-2) 7 = inF (.int r) [.int 2, .int 7]
  an : amongD (dOf s) (-1) 6 = false
theorem ods_d {M : MHp} {x : PyData} {r : Int} (h1 : SmS x ∨ (∃ ds, x = .list ds ∧ ∀ d ∈ ds, SmS d) ∨ (∃ ds, x = .tuple ds ∧ ds.length = 1 ∧ ∀ d ∈ ds, SmS d)) (ns : ∀ z, x ≠ .str z) (wh : wholeD x = inF (.int r) [.int 2, .int 7]) (am : amongD x (-2) 7 = inF (.int r) [.int 2, .int 7]) (an : amongD x (-1) 6 = false) : OdS M (.d x) r := by
  rcases h1 with h | ⟨ds, rfl, h⟩ | ⟨ds, rfl, hl, h⟩
  · exact ⟨⟨h.th, .inl ⟨_, rfl, shaped_sms h⟩⟩, ns, (fun a b e => by have e : x = _ := e; subst e; cases h.1), (fun a b c e => by have e : x = _ := e; subst e; cases h.1), wh, am, an⟩
  · exact ⟨⟨th_lst, .inl ⟨_, rfl, shaped_lst h⟩⟩, ns, (fun a b e => by cases e), (fun a b c e => by cases e), wh, am, an⟩
  · exact ⟨⟨th_tup (by omega) h, .inl ⟨_, rfl, shaped_tup h⟩⟩, ns, (fun a b e => by cases e; cases hl), (fun a b c e => by cases e; cases hl), wh, am, an⟩
theorem pick_odd {M : MHp} {d : Addr} {r : Int} (h0 : 0 ≤ r) (h1 : r < 8) (hM : M d = some (.dK [])) : ∃ s, s ≠ .n ∧ atI [Sl.d .none, .d (.bool true), .d (.int 7), .d (.list []), .d (.list [.str "a"]), .m d, .d (.tuple [.str "a"]), .d (.int (-2))] r = some s ∧ OdS M s r := by
  have sa : SmS (.str "a") := smB.sms (by decide +kernel)
  have : r = 0 ∨ r = 1 ∨ r = 2 ∨ r = 3 ∨ r = 4 ∨ r = 5 ∨ r = 6 ∨ r = 7 := by omega
  rcases this with rfl | rfl | rfl | rfl | rfl | rfl | rfl | rfl
  · exact ⟨_, sn_d _, rfl, ods_d (.inl sms_non) (fun _ e => by cases e) rfl rfl rfl⟩
  · exact ⟨_, sn_d _, rfl, ods_d (.inl (sms_bool _)) (fun _ e => by cases e) rfl rfl rfl⟩
  · exact ⟨_, sn_d _, rfl, ods_d (.inl (sms_int _)) (fun _ e => by cases e) rfl rfl rfl⟩
  · exact ⟨_, sn_d _, rfl, ods_d (.inr (.inl ⟨[], rfl, fun _ h => by cases h⟩)) (fun _ e => by cases e) rfl rfl rfl⟩
  · exact ⟨_, sn_d _, rfl, ods_d (.inr (.inl ⟨[.str "a"], rfl, by simpa using sa⟩)) (fun _ e => by cases e) rfl rfl rfl⟩
  · have ty : tyN M (.m d) "dict" := by
      show (match M d with | some (.lst _) => _ | some (.dK _) => _ | some (.dT _) => _ | _ => False)
      rw [hM]
    exact ⟨.m d, sn_m _, rfl, ⟨⟨⟨_, ty⟩, (fun z e => by cases e), (fun z e => by cases e), fun z e => by cases e⟩, .inr ⟨d, _, rfl, hM⟩⟩, (fun _ e => by cases e), (fun _ _ e => by cases e), (fun _ _ _ e => by cases e), rfl, rfl, rfl⟩
  · exact ⟨_, sn_d _, rfl, ods_d (.inr (.inr ⟨[.str "a"], rfl, rfl, by simpa using sa⟩)) (fun _ e => by cases e) rfl rfl rfl⟩
  · exact ⟨_, sn_d _, rfl, ods_d (.inl (sms_int _)) (fun _ e => by cases e) rfl rfl rfl⟩
theorem wordD_n {x : PyData} (h : ∀ z, x ≠ .str z) : wordD x = false := by
  unfold wordD; split
  · exact absurd rfl (h _)
  · rfl
theorem handD_n {x : PyData} (h : ∀ z, x ≠ .str z) : handD x = false := by
  unfold handD; split
  · exact absurd rfl (h _)
  · rfl
theorem numD_n {x : PyData} (h : ∀ z, x ≠ .str z) : numD x = .none := by
  unfold numD; split
  · exact absurd rfl (h _)
  · rfl
section
variable {D : DE} {M : MHp} {s0 s1 s2 s4 s5 s6 s7 s8 s9 s10 s11 s12 : Sl} {c : Int}
/-- from the odd thing on -/
theorem law_b3 (hp : ∀ s12, D.nx M [s0, s1, s2, .d (.int c), s4, s5, s6, s7, s8, s9, s10, s11, s12]) : c_law_b3 D M [s0, s1, s2, .d (.int c), s4, s5, s6, s7, s8, s9, s10, s11, s12] := by
  unfold c_law_b3 c_law_b2
  refine st_seq ?_
  have e60 : Ev (dOp ρPow (dC (.int 10)) (dC (.int 60))) M [s0, s1, s2, .d (.int c), s4, s5, s6, s7, s8, s9, s10, s11, s12] (.d (.int (10 ^ 60))) := ev_op ev_C ev_C fun post hp => ⟨⟨by decide, by decide, by decide⟩, hp⟩
  refine st_set (s := .d (.int (c % 10 ^ 60))) (ev_op (ev_V rfl (sn_d _)) e60 fun post hp => ⟨(by decide : (0 : Int) < 10 ^ 60), hp⟩) ?_
  dsimp only [List.set_cons_succ, List.set_cons_zero]
  generalize c % 10 ^ 60 = g
  refine st_if (b := false) (evT_to (evT_or (a := false) (b := false) (evT_b (fun post hp => ?_)) fun _ => evT_b (fun post hp => ?_)) rfl) (fun e => by cases e) fun _ => hp _
  · walk_at "dl"
    refine ⟨.d (.int g), _, _, _, rfl, rfl, rfl, ?_⟩
    have e : (if true = true then !isB (.bool (amongD (dOf (.d (.int g))) (g - 1) g)) true else isB (.bool (amongD (dOf (.d (.int g))) (g - 1) g)) true) = false := by
      show (!decide ((decide (g - 1 ≤ g) && decide (g ≤ g)) = true)) = false
      rw [decide_eq_true (show g - 1 ≤ g by omega), decide_eq_true (Int.le_refl g)]; rfl
    rw [e]; exact hp
  · walk_at "dl"
    refine ⟨.d (.int g), _, _, _, rfl, rfl, rfl, ?_⟩
    have e : (if true = true then !isB (.bool (amongD (dOf (.d (.int g))) (g + 1) (g + 2))) false else isB (.bool (amongD (dOf (.d (.int g))) (g + 1) (g + 2))) false) = false := by
      show (!decide ((decide (g + 1 ≤ g) && decide (g ≤ g + 2)) = false)) = false
      rw [decide_eq_false (show ¬ g + 1 ≤ g by omega)]; rfl
    rw [e]; exact hp
theorem law_b8 (hp : ∀ M' s9 s10 s11 s12, D.nx M' [s0, s1, s2, .d (.int c), s4, s5, s6, s7, s8, s9, s10, s11, s12]) : c_law_b8 D M [s0, s1, s2, .d (.int c), s4, s5, s6, s7, s8, s9, s10, s11, s12] := by
  unfold c_law_b8
  refine st_seq ?_
  show dOp _ _ _ _ _ _
  have hr := emod_lt (a := c) (b := 8) (by decide)
  walk_at "dl"
  refine ⟨[], rfl, sz (by simp), [.str "a"], rfl, sz (by simp), fun d hd => ⟨[.str "a"], rfl, sz (by simp), sz (by simp), fun q hq => ?_⟩⟩
  have nqd : d ≠ q := fun e => by subst e; rw [mput_same] at hq; cases hq
  refine ⟨by decide, ?_⟩
  obtain ⟨s, hn, e1, ho⟩ := pick_odd (M := mput (mput M d (.dK [])) q (.lst [.d .none, .d (.bool true), .d (.int 7), .d (.list []), .d (.list [.str "a"]), .m d, .d (.tuple [.str "a"]), .d (.int (-2))])) (d := d) hr.1 hr.2 (by rw [mput_ne nqd]; exact mput_same)
  refine ρIx_ml mput_same ⟨s, e1, ?_⟩
  generalize mput (mput M d (.dK [])) q _ = M1 at ho ⊢
  unfold c_law_b7
  obtain ⟨T, ty⟩ := ho.od.1.ty
  refine st_seq ?_
  refine st_set (s := .d (.list [.none, .none, .none, .none])) (ev_lst (ds := [.none, .none, .none, .none]) (ev_cons (ev_call (ev_cons (ev_V rfl hn) ev_nil) fun post hp => ⟨s, rfl, ho.od.1, by rw [numD_n ho.ns]; exact hp⟩) (ev_cons (ev_call (ev_cons (ev_V rfl hn) ev_nil) fun post hp => ⟨s, rfl, ⟨T, ty⟩, .inl ⟨fun z e => ho.ns z (by rw [e]; rfl), hp⟩⟩) (ev_cons (ev_call (ev_cons (ev_V rfl hn) ev_nil) fun post hp => ⟨s, rfl, ho.od.1, by rw [nameOfD_n ho.ns]; exact hp⟩) (ev_cons (ev_call (ev_cons (ev_V rfl hn) ev_nil) fun post hp => ⟨s, rfl, ho.od, by rw [lineOfS_n ho.ns]; exact hp⟩) ev_nil)))) (by simp)) ?_
  dsimp only [List.set_cons_succ, List.set_cons_zero]
  unfold c_law_b6
  refine st_seq ?_
  have m4 : ∀ es : List Sl, Ev (dOp ρMul (dLst (dCons (dC .none) dNil)) (dC (.int 4))) M1 es (.d (.list [.none, .none, .none, .none])) := fun es => ev_op (ev_lst (ds := [.none]) (ev_cons ev_C ev_nil) (by simp)) ev_C fun post hp => ρMul_lst ⟨by decide, by decide, sz (by decide), hp⟩
  have s4 : SeqAt.shaped (.list [.none, .none, .none, .none]) = true := by decide +kernel
  refine st_if (b := false) (evT_to (evT_or (evT_b (ev_op (ev_V rfl (sn_d _)) (m4 _) (r_ne s4 s4))) fun _ =>
    evT_or (evT_tru (ev_call (ev_cons (ev_V rfl hn) ev_nil) fun post hp => ⟨s, rfl, ho.od.1, hp⟩)) fun _ =>
      evT_or (evT_tru (ev_call (ev_cons (ev_V rfl hn) ev_nil) fun post hp => ⟨s, rfl, ho.od.1, hp⟩)) fun _ =>
        evT_or (evT_tru (ev_is_name (ev_cons (ev_V rfl hn) ev_nil) ho.od.1)) fun _ =>
          evT_or (evT_tru (ev_is_put (ev_cons (ev_V rfl hn) ev_nil) ho.od.1)) fun _ => evT_tru (ev_is_end (ev_cons (ev_V rfl hn) ev_nil) ho.od.1))
    (by rw [wordD_n ho.ns, handD_n ho.ns, nameD_2 ho.nt, putD_3 ho.n3, endD_3 ho.n3]; rfl)) (fun e => by cases e) fun _ => ?_
  dsimp only [dNext]
  unfold c_law_b5
  refine st_seq ?_
  refine st_set (s := .d (.bool (inF (.int (c % 8)) [.int 2, .int 7]))) (ev_op (ev_op (ev_V rfl (sn_d _)) ev_C fun post hp => ⟨(by decide : (0 : Int) < 8), hp⟩) (ev_tup (ds := [.int 2, .int 7]) (ev_cons ev_C (ev_cons ev_C ev_nil)) (by simp)) (r_inF (neg := false) rfl rfl rfl)) ?_
  dsimp only [List.set_cons_succ, List.set_cons_zero]
  unfold c_law_b4
  refine st_seq ?_
  refine st_if (b := false) (evT_to (evT_or (evT_b (ev_op (ev_call (s := .d (.bool (wholeD (dOf s)))) (ev_cons (ev_V rfl hn) ev_nil) fun post hp => ⟨s, T, rfl, ty, hp⟩) (ev_V rfl (sn_d _)) r_neb)) fun _ =>
    evT_or (evT_b (ev_op (ev_call (s := .d (.bool (amongD (dOf s) (-2) 7))) (ev_cons (ev_V rfl hn) (ev_cons ev_neg (ev_cons ev_C ev_nil))) fun post hp => ⟨s, T, _, _, rfl, ty, hp⟩) (ev_V rfl (sn_d _)) r_neb)) fun _ =>
      evT_b (ev_op (s := .d (.bool false)) (ev_call (s := .d (.bool (amongD (dOf s) (-1) 6))) (ev_cons (ev_V rfl hn) (ev_cons ev_neg (ev_cons ev_C ev_nil))) fun post hp => ⟨s, T, _, _, rfl, ty, hp⟩) ev_C fun post hp => ⟨rfl, by rw [ho.an]; exact hp⟩))
    (by rw [ho.wh, ho.am, beq_self_eq_true]; rfl)) (fun e => by cases e) fun _ => ?_
  exact law_b3 fun s12 => hp _ _ _ _ _
end
end K01
set_option Elab.async false
set_option linter.all false
set_option autoImplicit false
set_option maxRecDepth 100000
set_option maxHeartbeats 4000000
namespace K01
open PySem PySem.Spec PyProof.Rows L2 DL
local macro_rules | `(tactic| walk_at "dl") => `(tactic| try dsimp only [dSeq, dSet, dLstM, dOp, dV, dVs_d, dVs_m, dVs_s, dC, dCc, dCB, dCons, dNil, dLst, dTup, dUn, dB, dTru, dAnd, dOr, dNot, dAndV, dOrV, dNotV, dIfE, dIf, dRet, dExpr, dBM, dVF, dIn, dEnum, dZip, dRng1, dRng2, dPar, dAsg, dCall, dNext, dBreak, dYes, dSl, dPart, dNoP, dRev, dSub, dSubs, dIsi, dChain, dSgn, dM1, dCatR, dGet1, dGet2, Tg.set, setAll_c, setAll_0, wipeS, wkD, wkR, ρAdd_int, ρAdd_str, ρAdd_tup, ρSub_int, ρMul_int, ρMod_int, ρDiv_int, ρPow_int, ρLt_int, ρLe_int, ρGt_int, ρGe_int, ρNeg_int, ρIx_lst, ρIx_tup, ρIx_str, ρIx_scr, ρLen_lst, ρLen_tup, ρLen_str, ρLen_scr, ρMax_2, ρMin_2, ρInt_int, ρInt_bool, ρApp_m, ρTru_b, ρTru_n, ρTru_i, ρTru_l, ρTru_t, ρWk_l, ρWk_t, ρWk_s, ρWk_m, ρWk_tt, ρIx_t, ρLen_t, ρTru_tt, dVs_t, dTupT, dEnumS, dZipS, ρSl_t, ρSl_s, ρSl_c, List.cons_append, List.nil_append, List.length_cons, List.length_nil, List.getElem?_cons_succ, List.getElem?_cons_zero, List.set_cons_succ, List.set_cons_zero, List.map])

def sgH : List PyData := [.str "ab.1", .str "a1.0", .str "012345", .str "abcz", .str "A -\n.1"]
def sgOk : PyData → Bool
  | .str z => decide (0 < z.length) && decide (z.length ≤ 1000) && PyData.strOk z
  | _ => false
theorem sgH_ok : ∀ x ∈ sgH, ∃ z, x = .str z ∧ 0 < z.length ∧ z.length ≤ 1000 ∧ PyData.strOk z = true := by
  have h : sgH.all sgOk = true := by decide +kernel
  intro x hx
  have := List.all_eq_true.mp h x hx
  cases x with
  | str z =>
    simp only [sgOk, Bool.and_eq_true, decide_eq_true_eq] at this
    exact ⟨z, rfl, this.1.1, this.1.2, this.2⟩
  | _ => cases this
theorem abz : tl "abz" = [97, 98, 122] := by decide +kernel
theorem len_abz : ("abz" : Str).length = 3 := by decide +kernel
theorem cut_map {α β : Type} (f : α → β) (xs : List α) (lo hi : Option Int) : DL.cutD (xs.map f) lo hi = (DL.cutD xs lo hi).map f := by
  unfold DL.cutD; rw [List.length_map, List.map_take, List.map_drop]
theorem cut63 {ns : List Int} (h : ns.length ≤ 63) : (DL.cutD ns none (some 63)).length ≤ 63 := by
  unfold DL.cutD
  refine Nat.le_trans (List.length_take_le' _ _) ?_
  rw [List.length_drop]; omega
section
variable {D : DE} {ns : List Int} {ws : List Str} {c : Int} {k : Nat} {p : Addr}
theorem law_b9 {M : MHp} {w : Str} {s2 s4 s6 s7 s8 s9 s10 s11 s12 : Sl} (hw : w.length ≤ 10) (hok : PyData.strOk w = true) (hl : ws.length ≤ 100)
    (hp : ∀ M' s9 s10 s11 s12, D.nx M' [.s ns, .d (.list ((ws ++ ["a" ++ Txt.replace w " " ""]).map PyData.str)), s2, .d (.int c), s4, .d (.str w), s6, s7, s8, s9, s10, s11, s12]) :
    c_law_b9 D M [.s ns, .d (.list (ws.map PyData.str)), s2, .d (.int c), s4, .d (.str w), s6, s7, s8, s9, s10, s11, s12] := by
  unfold c_law_b9
  refine st_seq ?_
  have hl2 : (Txt.replace w " " "").length ≤ w.length + (w.length + 1) * ("" : Str).length := TK.replace_len w " " ""
  have e0 : ("" : Str).length = 0 := by decide +kernel
  rw [e0] at hl2
  refine st_set (s := .d (.list ((ws ++ ["a" ++ Txt.replace w " " ""]).map PyData.str))) (ev_op (ev_V rfl (sn_d _)) (ev_lst (ds := [.str ("a" ++ Txt.replace w " " "")]) (ev_cons (fun post hp => ⟨w, rfl, by rw [e0]; omega, sz (by rw [len_a]; omega), hp⟩) ev_nil) (by simp)) fun post hp => ρAdd_lst ⟨sz (by simp; omega), ?_⟩) ?_
  · rw [List.map_append] at hp; exact hp
  · dsimp only [List.set_cons_succ, List.set_cons_zero]
    exact law_b8 fun M' s9 s10 s11 s12 => hp M' s9 s10 s11 s12
theorem law_b10 {M : MHp} {w nm ln nu : Str} {s2 s4 s6 s8 s9 s10 s11 s12 : Sl} (hw : w.length ≤ 10) (hok : PyData.strOk w = true) (h1 : Sx nm) (h2 : Sx ln) (h3 : Sx nu) (hl : ws.length ≤ 100)
    (hp : ∀ M' s8 s9 s10 s11 s12, D.nx M' [.s ns, .d (.list ((ws ++ ["a" ++ Txt.replace w " " ""]).map PyData.str)), s2, .d (.int c), s4, .d (.str w), s6, .d (.list ([w, nm, ln, nu].map PyData.str)), s8, s9, s10, s11, s12]) :
    c_law_b10 D M [.s ns, .d (.list (ws.map PyData.str)), s2, .d (.int c), s4, .d (.str w), s6, .d (.list ([w, nm, ln, nu].map PyData.str)), s8, s9, s10, s11, s12] := by
  unfold c_law_b10
  refine st_seq ?_
  unfold dFor
  have hall : ∀ z ∈ [w, nm, ln, nu, "head", "none"], Sx z := by
    intro z hz
    simp only [List.mem_cons, List.mem_nil_iff, or_false] at hz
    rcases hz with rfl | rfl | rfl | rfl | rfl | rfl
    · exact ⟨by omega, hok⟩
    · exact h1
    · exact h2
    · exact h3
    · exact ⟨by decide +kernel, by decide +kernel⟩
    · exact ⟨by decide +kernel, by decide +kernel⟩
  walk_at "dl"
  refine ⟨[.str "head", .str "none"], rfl, sz (by simp), ρAdd_lst ⟨sz (by simp), ?_⟩⟩
  show ρWk (.d (.list ([w, nm, ln, nu, "head", "none"].map PyData.str))) _ _
  generalize [w, nm, ln, nu, "head", "none"] = zs at hall ⊢
  walk_at "dl"
  refine ⟨fun i M' es' => ∃ s8, es' = [.s ns, .d (.list (ws.map PyData.str)), s2, .d (.int c), s4, .d (.str w), s6, .d (.list ([w, nm, ln, nu].map PyData.str)), s8, s9, s10, s11, s12], ⟨_, rfl⟩, fun _ _ _ _ _ => trivial, ?_, ?_⟩
  · rintro i M' es' hi ⟨s8, rfl⟩
    have hi : i < zs.length := by simpa using hi
    have e : (zs.map PyData.str).getD i .none = .str zs[i] := by simp [List.getD_eq_getElem?_getD, hi]
    rw [e]
    unfold c_law_b1
    walk_at "dl"
    refine ⟨zs[i], rfl, hall _ (List.getElem_mem hi), ?_⟩
    walk_at "dl"
    exact iteF ⟨_, rfl⟩
  · rintro M' es' ⟨s8, rfl⟩
    exact law_b9 hw hok hl fun M' s9 s10 s11 s12 => hp M' s8 s9 s10 s11 s12
theorem law_b14 {M : MHp} {s4 s5 s6 s7 s8 s9 s10 s11 s12 : Sl} (hk : k ≤ 100) (hl : ws.length ≤ 100)
    (hp : ∀ M' w s4 s5 s6 s7 s8 s9 s10 s11 s12, Wd w → D.nx M' [.s ns, .d (.list ((ws ++ [w]).map PyData.str)), .d (.int (k : Nat)), .d (.int c), s4, s5, s6, s7, s8, s9, s10, s11, s12]) :
    c_law_b14 D M [.s ns, .d (.list (ws.map PyData.str)), .d (.int (k : Nat)), .d (.int c), s4, s5, s6, s7, s8, s9, s10, s11, s12] := by
  unfold c_law_b14
  walk_at "dl"
  refine ⟨c, k, rfl, by omega, by omega, fun p l m hp0 l0 m0 => ?_⟩
  refine ⟨p, l, m, rfl, mput_same, l0, m0, fun l m l0 m0 => ?_⟩
  rw [mput_mput]
  walk_at "dl"
  refine iteF ?_
  unfold c_law_b13
  walk_at "dl"
  refine ⟨sgH, rfl, sz (by decide), dd mput_same l0 m0 (by decide) (by decide) fun l m v l0 m0 v0 v1 => ?_⟩
  obtain ⟨x, hx, ex⟩ := pick_at (L := sgH) v0 v1
  obtain ⟨z, rfl, z0, z1, zok⟩ := sgH_ok x hx
  refine ⟨_, ex, ?_⟩
  rw [mput_mput]
  refine ⟨p, l, m, z, rfl, mput_same, l0, m0, z0, z1, zok, fun l m w l0 m0 hw hok => ?_⟩
  rw [mput_mput]
  unfold c_law_b12
  walk_at "dl"
  refine dd mput_same l0 m0 (by decide) (by decide) fun l m v l0 m0 v0 v1 => ?_
  have hv : v.toNat < (tl "abz").length := by rw [abz]; show v.toNat < 3; omega
  refine ⟨sz (by rw [len_abz]; omega), (tl "abz")[v.toNat], by have := atI_at (List.getElem?_eq_getElem hv); rwa [show ((v.toNat : Nat) : Int) = v by omega] at this, ?_⟩
  have hc : (tl "abz")[v.toNat] < 0x110000 := strOk_mem (z := "abz") (by decide +kernel) (List.getElem_mem hv)
  generalize (tl "abz")[v.toNat] = ch at hc ⊢
  rw [mput_mput]
  have lc : (⟨#[ch]⟩ : Str).length = 1 := rfl
  refine ⟨sz (by rw [lc, l1]; omega), ?_⟩
  refine dd mput_same l0 m0 (by decide) (by decide) fun l m v l0 m0 v0 v1 => ?_
  have hb : v.natAbs < 10 ^ 9 := by omega
  have lv := len_num v0 (by omega)
  refine ⟨v, rfl, log_of hb, ?_⟩
  refine ⟨sz (by rw [len_app, lc, l1]; show 1 + 1 + (strI v).length ≤ _; omega), ?_⟩
  rw [mput_mput]
  have h1 : Sx ((⟨#[ch]⟩ : Str) ++ "." ++ strI v) := ⟨by rw [len_app, len_app, lc, l1]; omega, strOk_app (strOk_app (strOk_1 hc) (by decide +kernel)) (sx_num v0 (by omega)).ok⟩
  have h1l : ((⟨#[ch]⟩ : Str) ++ "." ++ strI v).length ≤ 20 := by rw [len_app, len_app, lc, l1]; omega
  show c_law_b11 _ _ [.s ns, .d (.list (ws.map PyData.str)), .d (.int (k : Nat)), .d (.int c), .m p, .d (.str w), .d (.str ((⟨#[ch]⟩ : Str) ++ "." ++ strI v)), s7, s8, s9, s10, s11, s12]
  generalize (⟨#[ch]⟩ : Str) ++ "." ++ strI v = nm at h1 h1l ⊢
  unfold c_law_b11
  walk_at "dl"
  refine ⟨sz (by rw [l1]; omega), ?_⟩
  refine dd mput_same l0 m0 (by decide) (by decide) fun l m v l0 m0 v0 v1 => ?_
  have lv := len_num v0 (by omega)
  refine ⟨v, rfl, log_of (by omega), ?_⟩
  refine ⟨sz (by rw [len_app, l1]; show nm.length + 1 + (strI v).length ≤ _; omega), ?_⟩
  rw [mput_mput]
  have h2 : Sx (nm ++ "." ++ strI v) := ⟨by rw [len_app, len_app, l1]; omega, strOk_app (strOk_app h1.ok (by decide +kernel)) (sx_num v0 (by omega)).ok⟩
  refine dd mput_same l0 m0 (by decide) (by decide) fun l m v2 l0 m0 v0 v1 => ?_
  refine ⟨v2, rfl, log_of (by omega), ?_⟩
  have h3 : Sx (strI v2) := sx_num v0 (by omega)
  refine ⟨[w, nm, nm ++ "." ++ strI v, strI v2].map PyData.str, rfl, sz (by simp), ?_⟩
  exact law_b10 hw hok h1 h2 h3 hl fun M' s8 s9 s10 s11 s12 => hp M' _ _ _ _ _ _ _ _ _ _ (wd_of hw hok)
end
theorem wok_e : wordsOk "" = false := by decide +kernel
theorem does_law : Does 13 φ_law c_law := by
  rintro M ss post ⟨ns, rfl, hl, hp⟩
  show c_law _ M [.s ns, .n, .n, .n, .n, .n, .n, .n, .n, .n, .n, .n, .n]
  unfold c_law
  refine st_seq ?_
  refine st_set (ev_lst (ds := []) ev_nil (by simp)) ?_
  dsimp only [List.set_cons_succ, List.set_cons_zero]
  refine st_seq ?_
  unfold dFor
  walk_at "dl"
  refine ⟨63, rfl, ?_⟩
  rw [cut_map]
  have hc := cut63 hl
  generalize DL.cutD ns none (some 63) = cs at hc ⊢
  refine ⟨_, ns, rfl, .inr ⟨ns, rfl, rfl⟩, [.int ns.sum], rfl, sz (by simp), ρAdd_lst ⟨sz (by simp; omega), ?_⟩⟩
  have e : cs.map PyData.int ++ [.int ns.sum] = (cs ++ [ns.sum]).map PyData.int := by simp
  rw [e]
  have hc2 : (cs ++ [ns.sum]).length ≤ 64 ∧ 0 < (cs ++ [ns.sum]).length := by simp; omega
  generalize cs ++ [ns.sum] = xs at hc2 ⊢
  refine ⟨_, xs.map PyData.int, rfl, .inl rfl, fun i M' es' => ∃ (ws : List Str) (s2 s3 s4 s5 s6 s7 s8 s9 s10 s11 s12 : Sl), ws.length = i ∧ (∀ w ∈ ws, Wd w) ∧ es' = [.s ns, .d (.list (ws.map PyData.str)), s2, s3, s4, s5, s6, s7, s8, s9, s10, s11, s12], ⟨[], _, _, _, _, _, _, _, _, _, _, _, rfl, (fun w h => by cases h), rfl⟩, fun _ _ _ _ _ => trivial, ?_, ?_⟩
  · rintro i M' es' hi ⟨ws, s2, s3, s4, s5, s6, s7, s8, s9, s10, s11, s12, hwl, hws, rfl⟩
    have hi : i < xs.length := by simpa using hi
    have e : (xs.map PyData.int).getD i .none = .int xs[i] := by simp [List.getD_eq_getElem?_getD, hi]
    rw [e]
    walk_at "dl"
    refine ⟨_, rfl, rfl, ?_⟩
    walk_at "dl"
    refine law_b14 (by omega) (by omega) fun M' w s4 s5 s6 s7 s8 s9 s10 s11 s12 hw => ⟨ws ++ [w], _, _, _, _, _, _, _, _, _, _, _, by simp [hwl], ?_, rfl⟩
    intro v hv
    rcases List.mem_append.mp hv with h | h
    · exact hws v h
    · have : v = w := by simpa using h
      subst this; exact hw
  · rintro M' es' ⟨ws, s2, s3, s4, s5, s6, s7, s8, s9, s10, s11, s12, hwl, hws, rfl⟩
    have hwl : ws.length = xs.length := by rw [hwl]; simp
    walk_at "dl"
    refine ⟨_, rfl, ⟨_, rfl⟩, .inr ⟨"", rfl, by decide +kernel, fun _ => ?_, fun e => by rw [wok_e] at e; cases e⟩⟩
    refine ⟨true, rfl, rfl, _, rfl, iteT ?_⟩
    refine ⟨_, ns, rfl, .inr ⟨ns, rfl, rfl⟩, ns.sum, 2, rfl, by decide, by decide, fun v v0 v1 => ?_⟩
    refine ⟨ws, v, rfl, (fun e => by subst e; simp at hwl; omega), by omega, hws, ret (hp _)⟩
end K01
set_option Elab.async false
set_option linter.all false
set_option autoImplicit false
set_option maxRecDepth 100000
namespace K01
open PySem PySem.Spec PyProof.Rows L2 DL
theorem len_is_whole (M : MHp) (ss : List Sl) (post : DP) (h : φ_is_whole M ss post) : ss.length = 1 := by obtain ⟨_, _, rfl, _⟩ := h; rfl
theorem len_is_among (M : MHp) (ss : List Sl) (post : DP) (h : φ_is_among M ss post) : ss.length = 3 := by obtain ⟨_, _, _, _, rfl, _⟩ := h; rfl
theorem len_is_word (M : MHp) (ss : List Sl) (post : DP) (h : φ_is_word M ss post) : ss.length = 1 := by obtain ⟨_, rfl, _⟩ := h; rfl
theorem len_is_hand (M : MHp) (ss : List Sl) (post : DP) (h : φ_is_hand M ss post) : ss.length = 1 := by obtain ⟨_, rfl, _⟩ := h; rfl
theorem len_is_name (M : MHp) (ss : List Sl) (post : DP) (h : φ_is_name M ss post) : ss.length = 1 := by obtain ⟨_, rfl, _⟩ := h; rfl
theorem len_is_put_line (M : MHp) (ss : List Sl) (post : DP) (h : φ_is_put_line M ss post) : ss.length = 1 := by obtain ⟨_, rfl, _⟩ := h; rfl
theorem len_is_end (M : MHp) (ss : List Sl) (post : DP) (h : φ_is_end M ss post) : ss.length = 1 := by obtain ⟨_, rfl, _⟩ := h; rfl
theorem len_number_of (M : MHp) (ss : List Sl) (post : DP) (h : φ_number_of M ss post) : ss.length = 1 := by obtain ⟨_, rfl, _⟩ := h; rfl
theorem len_name_text (M : MHp) (ss : List Sl) (post : DP) (h : φ_name_text M ss post) : ss.length = 1 := by obtain ⟨_, _, rfl, _⟩ := h; rfl
theorem len_line_text (M : MHp) (ss : List Sl) (post : DP) (h : φ_line_text M ss post) : ss.length = 1 := by obtain ⟨_, _, _, rfl, _⟩ := h; rfl
theorem len_name_of (M : MHp) (ss : List Sl) (post : DP) (h : φ_name_of M ss post) : ss.length = 1 := by obtain ⟨_, rfl, _⟩ := h; rfl
theorem len_line_of (M : MHp) (ss : List Sl) (post : DP) (h : φ_line_of M ss post) : ss.length = 1 := by obtain ⟨_, rfl, _⟩ := h; rfl
theorem len_words_of (M : MHp) (ss : List Sl) (post : DP) (h : φ_words_of M ss post) : ss.length = 1 := by obtain ⟨_, rfl, _⟩ := h; rfl
theorem len__law_mixed (M : MHp) (ss : List Sl) (post : DP) (h : φ__law_mixed M ss post) : ss.length = 2 := by obtain ⟨_, _, rfl, _⟩ := h; rfl
theorem len__law_draw (M : MHp) (ss : List Sl) (post : DP) (h : φ__law_draw M ss post) : ss.length = 2 := by obtain ⟨_, _, rfl, _⟩ := h; rfl
theorem len__law_digit (M : MHp) (ss : List Sl) (post : DP) (h : φ__law_digit M ss post) : ss.length = 2 := by obtain ⟨_, _, _, _, rfl, _⟩ := h; rfl
theorem len__law_word (M : MHp) (ss : List Sl) (post : DP) (h : φ__law_word M ss post) : ss.length = 2 := by obtain ⟨_, _, _, _, rfl, _⟩ := h; rfl
theorem len__law_is_word (M : MHp) (ss : List Sl) (post : DP) (h : φ__law_is_word M ss post) : ss.length = 1 := by obtain ⟨_, rfl, _⟩ := h; rfl
theorem len__law_number (M : MHp) (ss : List Sl) (post : DP) (h : φ__law_number M ss post) : ss.length = 1 := by obtain ⟨_, rfl, _⟩ := h; rfl
theorem len__law_parts (M : MHp) (ss : List Sl) (post : DP) (h : φ__law_parts M ss post) : ss.length = 2 := by obtain ⟨_, _, rfl, _⟩ := h; rfl
theorem len__law_one (M : MHp) (ss : List Sl) (post : DP) (h : φ__law_one M ss post) : ss.length = 1 := by obtain ⟨_, rfl, _⟩ := h; rfl
theorem len__law_things (M : MHp) (ss : List Sl) (post : DP) (h : φ__law_things M ss post) : ss.length = 1 := by obtain ⟨_, _, _, rfl, _⟩ := h; rfl
theorem len__law_row (M : MHp) (ss : List Sl) (post : DP) (h : φ__law_row M ss post) : ss.length = 2 := by obtain ⟨_, _, rfl, _⟩ := h; rfl
theorem len_law (M : MHp) (ss : List Sl) (post : DP) (h : φ_law M ss post) : ss.length = 1 := by obtain ⟨_, rfl, _⟩ := h; rfl
end K01
set_option Elab.async false
set_option linter.all false
set_option maxRecDepth 100000
set_option maxHeartbeats 4000000
namespace K01
open PySem PySem.Spec PyProof.Rows L2 DL
def top (i : Nat) : Stmt := PySem.Challenge.pw_manyheads_k01_names.main.body.getD i (.Pass ⟨0, 0, 0, 0⟩)
abbrev s_is_whole : Stmt := top 9
theorem sc_is_whole : FnScope ["thing"] ["thing"] (defScope s_is_whole) := ⟨rfl, rfl, rfl, by decide +kernel, rfl, by decide +kernel, by decide +kernel⟩
abbrev s_is_among : Stmt := top 10
theorem sc_is_among : FnScope ["thing", "least", "most"] ["thing", "least", "most"] (defScope s_is_among) := ⟨rfl, rfl, rfl, by decide +kernel, rfl, by decide +kernel, by decide +kernel⟩
abbrev s_is_word : Stmt := top 11
theorem sc_is_word : FnScope ["thing", "sign"] ["thing"] (defScope s_is_word) := ⟨rfl, rfl, rfl, by decide +kernel, rfl, by decide +kernel, by decide +kernel⟩
abbrev s_is_hand : Stmt := top 12
theorem sc_is_hand : FnScope ["thing"] ["thing"] (defScope s_is_hand) := ⟨rfl, rfl, rfl, by decide +kernel, rfl, by decide +kernel, by decide +kernel⟩
abbrev s_is_name : Stmt := top 13
theorem sc_is_name : FnScope ["thing"] ["thing"] (defScope s_is_name) := ⟨rfl, rfl, rfl, by decide +kernel, rfl, by decide +kernel, by decide +kernel⟩
abbrev s_is_put_line : Stmt := top 14
theorem sc_is_put_line : FnScope ["thing"] ["thing"] (defScope s_is_put_line) := ⟨rfl, rfl, rfl, by decide +kernel, rfl, by decide +kernel, by decide +kernel⟩
abbrev s_is_end : Stmt := top 15
theorem sc_is_end : FnScope ["thing", "part"] ["thing"] (defScope s_is_end) := ⟨rfl, rfl, rfl, by decide +kernel, rfl, by decide +kernel, by decide +kernel⟩
abbrev s_number_of : Stmt := top 16
theorem sc_number_of : FnScope ["word", "sign"] ["word"] (defScope s_number_of) := ⟨rfl, rfl, rfl, by decide +kernel, rfl, by decide +kernel, by decide +kernel⟩
abbrev s_name_text : Stmt := top 17
theorem sc_name_text : FnScope ["name"] ["name"] (defScope s_name_text) := ⟨rfl, rfl, rfl, by decide +kernel, rfl, by decide +kernel, by decide +kernel⟩
abbrev s_line_text : Stmt := top 18
theorem sc_line_text : FnScope ["line"] ["line"] (defScope s_line_text) := ⟨rfl, rfl, rfl, by decide +kernel, rfl, by decide +kernel, by decide +kernel⟩
abbrev s_name_of : Stmt := top 19
theorem sc_name_of : FnScope ["word", "parts", "found"] ["word"] (defScope s_name_of) := ⟨rfl, rfl, rfl, by decide +kernel, rfl, by decide +kernel, by decide +kernel⟩
abbrev s_line_of : Stmt := top 20
theorem sc_line_of : FnScope ["word", "parts", "found"] ["word"] (defScope s_line_of) := ⟨rfl, rfl, rfl, by decide +kernel, rfl, by decide +kernel, by decide +kernel⟩
abbrev s_words_of : Stmt := top 21
theorem sc_words_of : FnScope ["row", "found"] ["row"] (defScope s_words_of) := ⟨rfl, rfl, rfl, by decide +kernel, rfl, by decide +kernel, by decide +kernel⟩
abbrev s__law_mixed : Stmt := top 23
theorem sc__law_mixed : FnScope ["_law_cell", "_law_k"] ["_law_cell", "_law_k"] (defScope s__law_mixed) := ⟨rfl, rfl, rfl, by decide +kernel, rfl, by decide +kernel, by decide +kernel⟩
abbrev s__law_draw : Stmt := top 24
theorem sc__law_draw : FnScope ["_law_cell", "_law_k", "_law_first", "_law_more"] ["_law_cell", "_law_k"] (defScope s__law_draw) := ⟨rfl, rfl, rfl, by decide +kernel, rfl, by decide +kernel, by decide +kernel⟩
abbrev s__law_digit : Stmt := top 25
theorem sc__law_digit : FnScope ["_law_state", "_law_many", "_law_found"] ["_law_state", "_law_many"] (defScope s__law_digit) := ⟨rfl, rfl, rfl, by decide +kernel, rfl, by decide +kernel, by decide +kernel⟩
abbrev s__law_word : Stmt := top 26
theorem sc__law_word : FnScope ["_law_state", "_law_signs", "_law_k"] ["_law_state", "_law_signs"] (defScope s__law_word) := ⟨rfl, rfl, rfl, by decide +kernel, rfl, by decide +kernel, by decide +kernel⟩
abbrev s__law_is_word : Stmt := top 27
theorem sc__law_is_word : FnScope ["_law_word_here", "_law_letters", "_law_sign"] ["_law_word_here"] (defScope s__law_is_word) := ⟨rfl, rfl, rfl, by decide +kernel, rfl, by decide +kernel, by decide +kernel⟩
abbrev s__law_number : Stmt := top 28
theorem sc__law_number : FnScope ["_law_word_here", "_law_sign", "_law_found"] ["_law_word_here"] (defScope s__law_number) := ⟨rfl, rfl, rfl, by decide +kernel, rfl, by decide +kernel, by decide +kernel⟩
abbrev s__law_parts : Stmt := top 29
theorem sc__law_parts : FnScope ["_law_word_here", "_law_many", "_law_parts_here", "_law_numbers", "_law_part"] ["_law_word_here", "_law_many"] (defScope s__law_parts) := ⟨rfl, rfl, rfl, by decide +kernel, rfl, by decide +kernel, by decide +kernel⟩
abbrev s__law_one : Stmt := top 30
theorem sc__law_one : FnScope ["_law_word_here", "_law_line", "_law_hand"] ["_law_word_here"] (defScope s__law_one) := ⟨rfl, rfl, rfl, by decide +kernel, rfl, by decide +kernel, by decide +kernel⟩
abbrev s__law_things : Stmt := top 31
theorem sc__law_things : FnScope ["_law_state", "_law_hand", "_law_number_here", "_law_place", "_law_good", "_law_fits", "_law_line", "_law_ends", "_law_due"] ["_law_state"] (defScope s__law_things) := ⟨rfl, rfl, rfl, by decide +kernel, rfl, by decide +kernel, by decide +kernel⟩
abbrev s__law_row : Stmt := top 32
theorem sc__law_row : FnScope ["_law_words", "_law_number_here", "_law_row_here", "_law_turn", "_law_found", "_law_at", "_law_parts_here"] ["_law_words", "_law_number_here"] (defScope s__law_row) := ⟨rfl, rfl, rfl, by decide +kernel, rfl, by decide +kernel, by decide +kernel⟩
abbrev s_law : Stmt := top 33
theorem sc_law : FnScope ["_law_script", "_law_words", "_law_k", "_law_cell", "_law_state", "_law_word_here", "_law_name", "_law_some", "_law_one_here", "_law_odd", "_law_told", "_law_due", "_law_big"] ["_law_script"] (defScope s_law) := ⟨rfl, rfl, rfl, by decide +kernel, rfl, by decide +kernel, by decide +kernel⟩
section
variable {P : Program} {w : World} {K : PySem.W.Frag} {mg : Str → Option Value} {base : Heap}
theorem ok_is_whole (F : DfA K mg "is_whole" s_is_whole ["thing"]) (n_isinstance : mg "isinstance" = none) (n_int : mg "int" = none) (n_bool : mg "bool" = none)   : Cal P w K mg base 1 "is_whole" φ_is_whole := by
  have nd := sc_is_whole.nd
  exact calD F sc_is_whole len_is_whole (fun f cdv A outer s H E hr =>
    (pds_one (pds_ret (pd_and (pd_isi (U := "int") rfl rfl n_isinstance rfl n_int (by decide +kernel) (pd_of_var (pv 0))) (pd_one (pd_not (pd_isi (U := "bool") rfl rfl n_isinstance rfl n_bool (by decide +kernel) (pd_of_var (pv 0))))))))) does_is_whole
theorem ok_is_among (F : DfA K mg "is_among" s_is_among ["thing", "least", "most"])   (C_is_whole : Cal P w K mg base 1 "is_whole" φ_is_whole) : Cal P w K mg base 2 "is_among" φ_is_among := by
  have nd := sc_is_among.nd
  exact calD F sc_is_among len_is_among (fun f cdv A outer s H E hr =>
    (pds_one (pds_ret (pd_and (pd_callC C_is_whole hr (by decide) rfl (pda_cons (pd_of_var (pv 0)) pda_nil)) (pd_one (pd_leLe (pd_of_var (pv 1)) (pd_of_var (pv 0)) (pd_of_var (pv 2)))))))) does_is_among
theorem ok_is_word (F : DfA K mg "is_word" s_is_word ["thing"]) (n_isinstance : mg "isinstance" = none) (n_str : mg "str" = none) (n_len : mg "len" = none) (n_all : mg "all" = none) (g_MOST_LETTERS : GlD K mg "MOST_LETTERS" (.int 8)) (g_LETTERS : GlD K mg "LETTERS" (.str "abcdefghijklmnopqrstuvwxyz"))  : Cal P w K mg base 1 "is_word" φ_is_word := by
  have nd := sc_is_word.nd
  exact calD F sc_is_word len_is_word (fun f cdv A outer s H E hr =>
    (pds_cons (pds_if (PW.pt (pdw_or (pdt_not (pdt_truth (pd_isi (U := "str") rfl rfl n_isinstance rfl n_str (by decide +kernel) (pd_of_var (pv 0))) (by intro _; rfl))) (pdw_or1 (pdt_not (pdt_leLe pd_int (pd_len rfl n_len (pda_cons (pd_of_var (pv 0)) pda_nil)) (pd_glS g_MOST_LETTERS rfl)))))) (pds_one (pds_ret pd_bl))
    pds_nil)
    (pds_one (pds_ret (pd_all rfl rfl n_all (pda_cons (pd_lc (own := [("sign", 1)]) fin_D rfl nd (pdi_str (pd_of_var (pv 0))) (blkOk_by (own := [("sign", 1)]) (by kernel_rfl)) (by decide) (fun _ _ _ _ _ => (pdg_nm (i := 1) nd rfl (by first | exact Or.inl rfl | exact Or.inr rfl))) (fun _ _ _ _ _ => pdts_nil) (fun _ _ _ _ _ => (pd_inS (pd_of_var (pv 1)) (pd_glS g_LETTERS rfl)))) pda_nil)))))) does_is_word
theorem ok_is_hand (F : DfA K mg "is_hand" s_is_hand ["thing"])  (g_RESERVED : GlD K mg "RESERVED" (.tuple [(.str "head"), (.str "foot"), (.str "none")])) (C_is_word : Cal P w K mg base 1 "is_word" φ_is_word) : Cal P w K mg base 2 "is_hand" φ_is_hand := by
  have nd := sc_is_hand.nd
  exact calD F sc_is_hand len_is_hand (fun f cdv A outer s H E hr =>
    (pds_one (pds_ret (pd_and (pd_callC C_is_word hr (by decide) rfl (pda_cons (pd_of_var (pv 0)) pda_nil)) (pd_one (pd_notInF (pd_of_var (pv 0)) (pd_glT g_RESERVED rfl))))))) does_is_hand
theorem ok_is_name (F : DfA K mg "is_name" s_is_name ["thing"]) (n_isinstance : mg "isinstance" = none) (n_tuple : mg "tuple" = none) (n_len : mg "len" = none) (g_MOST_NUMBER : GlD K mg "MOST_NUMBER" (.int 999)) (C_is_hand : Cal P w K mg base 2 "is_hand" φ_is_hand) (C_is_among : Cal P w K mg base 2 "is_among" φ_is_among) : Cal P w K mg base 3 "is_name" φ_is_name := by
  have nd := sc_is_name.nd
  exact calD F sc_is_name len_is_name (fun f cdv A outer s H E hr =>
    (pds_cons (pds_if (PW.pt (pdw_or (pdt_not (pdt_truth (pd_isi (U := "tuple") rfl rfl n_isinstance rfl n_tuple (by decide +kernel) (pd_of_var (pv 0))) (by intro _; rfl))) (pdw_or1 (pdt_ne hr.units (pd_len rfl n_len (pda_cons (pd_of_var (pv 0)) pda_nil)) pd_int)))) (pds_one (pds_ret pd_bl))
    pds_nil)
    (pds_one (pds_ret (pd_and (pd_callC C_is_hand hr (by decide) rfl (pda_cons (pd_item (pd_of_var (pv 0)) pd_int (fun _ _ => rfl)) pda_nil)) (pd_one (pd_callC C_is_among hr (by decide) rfl (pda_cons (pd_item (pd_of_var (pv 0)) pd_int (fun _ _ => rfl)) (pda_cons pd_int (pda_cons (pd_glS g_MOST_NUMBER rfl) pda_nil)))))))))) does_is_name
theorem ok_is_put_line (F : DfA K mg "is_put_line" s_is_put_line ["thing"]) (n_isinstance : mg "isinstance" = none) (n_tuple : mg "tuple" = none) (n_len : mg "len" = none)  (C_is_name : Cal P w K mg base 3 "is_name" φ_is_name) (C_is_whole : Cal P w K mg base 1 "is_whole" φ_is_whole) : Cal P w K mg base 4 "is_put_line" φ_is_put_line := by
  have nd := sc_is_put_line.nd
  exact calD F sc_is_put_line len_is_put_line (fun f cdv A outer s H E hr =>
    (pds_cons (pds_if (PW.pt (pdw_or (pdt_not (pdt_truth (pd_isi (U := "tuple") rfl rfl n_isinstance rfl n_tuple (by decide +kernel) (pd_of_var (pv 0))) (by intro _; rfl))) (pdw_or1 (pdt_ne hr.units (pd_len rfl n_len (pda_cons (pd_of_var (pv 0)) pda_nil)) pd_int)))) (pds_one (pds_ret pd_bl))
    pds_nil)
    (pds_one (pds_ret (pd_and (pd_callC C_is_name hr (by decide) rfl (pda_cons (pd_slice (pd_of_var (pv 0)) pdo_none (pdo_some pd_int)) pda_nil)) (pd_and (pd_callC C_is_whole hr (by decide) rfl (pda_cons (pd_item (pd_of_var (pv 0)) pd_int (fun _ _ => rfl)) pda_nil)) (pd_one (pd_gt (pd_item (pd_of_var (pv 0)) pd_int (fun _ _ => rfl)) pd_int)))))))) does_is_put_line
theorem ok_is_end (F : DfA K mg "is_end" s_is_end ["thing"]) (n_isinstance : mg "isinstance" = none) (n_tuple : mg "tuple" = none) (n_len : mg "len" = none) (n_all : mg "all" = none) (g_HEAD_LINE : GlD K mg "HEAD_LINE" (.tuple [(.str ""), (.int 0), (.int 0)])) (g_FOOT_LINE : GlD K mg "FOOT_LINE" (.tuple [(.str ""), (.int 0), (.int 1)])) (C_is_whole : Cal P w K mg base 1 "is_whole" φ_is_whole) : Cal P w K mg base 2 "is_end" φ_is_end := by
  have nd := sc_is_end.nd
  exact calD F sc_is_end len_is_end (fun f cdv A outer s H E hr =>
    (pds_cons (pds_if (PW.pt (pdw_or (pdt_not (pdt_truth (pd_isi (U := "tuple") rfl rfl n_isinstance rfl n_tuple (by decide +kernel) (pd_of_var (pv 0))) (by intro _; rfl))) (pdw_or (pdt_ne hr.units (pd_len rfl n_len (pda_cons (pd_of_var (pv 0)) pda_nil)) pd_int) (pdw_or1 (pdt_not (pdt_truth (pd_all rfl rfl n_all (pda_cons (pd_lc (own := [("part", 1)]) fin_D rfl nd (pdi_seq (pd_slice (pd_of_var (pv 0)) (pdo_some pd_int) pdo_none)) (blkOk_by (own := [("part", 1)]) (by kernel_rfl)) (by decide) (fun _ _ _ _ _ => (pdg_nm (i := 1) nd rfl (by first | exact Or.inl rfl | exact Or.inr rfl))) (fun _ _ _ _ _ => pdts_nil) (fun _ _ _ _ _ => (pd_callC C_is_whole hr (by decide) rfl (pda_cons (pd_of_var (pv 1)) pda_nil)))) pda_nil)) (by intro _; rfl))))))) (pds_one (pds_ret pd_bl))
    pds_nil)
    (pds_one (pds_ret (pd_or (pd_eq hr.units (pd_of_var (pv 0)) (pd_glT g_HEAD_LINE rfl)) (pd_one (pd_eq hr.units (pd_of_var (pv 0)) (pd_glT g_FOOT_LINE rfl)))))))) does_is_end
theorem ok_number_of (F : DfA K mg "number_of" s_number_of ["word"]) (n_isinstance : mg "isinstance" = none) (n_str : mg "str" = none) (n_len : mg "len" = none) (n_all : mg "all" = none) (n_int : mg "int" = none) (g_MOST_FIGURES : GlD K mg "MOST_FIGURES" (.int 6)) (g_FIGURES : GlD K mg "FIGURES" (.str "0123456789"))  : Cal P w K mg base 1 "number_of" φ_number_of := by
  have nd := sc_number_of.nd
  exact calD F sc_number_of len_number_of (fun f cdv A outer s H E hr =>
    (pds_cons (pds_if (PW.pt (pdw_or (pdt_not (pdt_truth (pd_isi (U := "str") rfl rfl n_isinstance rfl n_str (by decide +kernel) (pd_of_var (pv 0))) (by intro _; rfl))) (pdw_or1 (pdt_not (pdt_leLe pd_int (pd_len rfl n_len (pda_cons (pd_of_var (pv 0)) pda_nil)) (pd_glS g_MOST_FIGURES rfl)))))) (pds_one (pds_ret pd_non))
    pds_nil)
    (pds_cons (pds_if (PW.pt (pdw_or (pdt_not (pdt_truth (pd_all rfl rfl n_all (pda_cons (pd_lc (own := [("sign", 1)]) fin_D rfl nd (pdi_str (pd_of_var (pv 0))) (blkOk_by (own := [("sign", 1)]) (by kernel_rfl)) (by decide) (fun _ _ _ _ _ => (pdg_nm (i := 1) nd rfl (by first | exact Or.inl rfl | exact Or.inr rfl))) (fun _ _ _ _ _ => pdts_nil) (fun _ _ _ _ _ => (pd_inS (pd_of_var (pv 1)) (pd_glS g_FIGURES rfl)))) pda_nil)) (by intro _; rfl))) (pdw_or1 (pdt_eq hr.units (pd_item (pd_of_var (pv 0)) pd_int (fun _ _ => rfl)) pd_str)))) (pds_one (pds_ret pd_non))
    pds_nil)
    (pds_one (pds_ret (pd_intc rfl n_int (pda_cons (pd_of_var (pv 0)) pda_nil))))))) does_number_of
theorem ok_name_text (F : DfA K mg "name_text" s_name_text ["name"]) (n_str : mg "str" = none)   : Cal P w K mg base 1 "name_text" φ_name_text := by
  have nd := sc_name_text.nd
  exact calD F sc_name_text len_name_text (fun f cdv A outer s H E hr =>
    (pds_one (pds_ret (pd_add (pd_add (pd_item (pd_of_var (pv 0)) pd_int (fun _ _ => rfl)) pd_str) (pd_strI rfl n_str (pda_cons (pd_item (pd_of_var (pv 0)) pd_int (fun _ _ => rfl)) pda_nil)))))) does_name_text
theorem ok_line_text (F : DfA K mg "line_text" s_line_text ["line"]) (n_str : mg "str" = none) (g_HEAD_LINE : GlD K mg "HEAD_LINE" (.tuple [(.str ""), (.int 0), (.int 0)])) (g_FOOT_LINE : GlD K mg "FOOT_LINE" (.tuple [(.str ""), (.int 0), (.int 1)]))  : Cal P w K mg base 1 "line_text" φ_line_text := by
  have nd := sc_line_text.nd
  exact calD F sc_line_text len_line_text (fun f cdv A outer s H E hr =>
    (pds_cons (pds_if (pdt_eq hr.units (pd_of_var (pv 0)) (pd_glT g_HEAD_LINE rfl)) (pds_one (pds_ret pd_str))
    pds_nil)
    (pds_cons (pds_if (pdt_eq hr.units (pd_of_var (pv 0)) (pd_glT g_FOOT_LINE rfl)) (pds_one (pds_ret pd_str))
    pds_nil)
    (pds_one (pds_ret (pd_add (pd_add (pd_add (pd_add (pd_item (pd_of_var (pv 0)) pd_int (fun _ _ => rfl)) pd_str) (pd_strI rfl n_str (pda_cons (pd_item (pd_of_var (pv 0)) pd_int (fun _ _ => rfl)) pda_nil))) pd_str) (pd_strI rfl n_str (pda_cons (pd_item (pd_of_var (pv 0)) pd_int (fun _ _ => rfl)) pda_nil)))))))) does_line_text
theorem ok_name_of (F : DfA K mg "name_of" s_name_of ["word"]) (n_isinstance : mg "isinstance" = none) (n_str : mg "str" = none) (n_len : mg "len" = none)  (C_number_of : Cal P w K mg base 1 "number_of" φ_number_of) (C_is_name : Cal P w K mg base 3 "is_name" φ_is_name) : Cal P w K mg base 4 "name_of" φ_name_of := by
  have nd := sc_name_of.nd
  exact calD F sc_name_of len_name_of (fun f cdv A outer s H E hr =>
    (pds_cons (pds_set (i := 1) nd rfl (by first | exact Or.inl rfl | exact Or.inr rfl) (pd_ifE (pdt_truth (pd_isi (U := "str") rfl rfl n_isinstance rfl n_str (by decide +kernel) (pd_of_var (pv 0))) (by intro _; rfl)) (pd_split (mt := false) (pd_of_var (pv 0)) pd_str) (pd_lst pda_nil)))
    (pds_cons (pds_if (pdt_ne hr.units (pd_len rfl n_len (pda_cons (pd_of_var (pv 1)) pda_nil)) pd_int) (pds_one (pds_ret pd_non))
    pds_nil)
    (pds_cons (pds_set (i := 2) nd rfl (by first | exact Or.inl rfl | exact Or.inr rfl) (pd_tup (pda_cons (pd_item (pd_of_var (pv 1)) pd_int (fun _ _ => rfl)) (pda_cons (pd_callC C_number_of hr (by decide) rfl (pda_cons (pd_item (pd_of_var (pv 1)) pd_int (fun _ _ => rfl)) pda_nil)) pda_nil))))
    (pds_one (pds_ret (pd_ifE (pdt_truth (pd_callC C_is_name hr (by decide) rfl (pda_cons (pd_of_var (pv 2)) pda_nil)) (by intro _; rfl)) (pd_of_var (pv 2)) pd_non))))))) does_name_of
theorem ok_line_of (F : DfA K mg "line_of" s_line_of ["word"]) (n_isinstance : mg "isinstance" = none) (n_str : mg "str" = none) (n_len : mg "len" = none) (g_HEAD_LINE : GlD K mg "HEAD_LINE" (.tuple [(.str ""), (.int 0), (.int 0)])) (g_FOOT_LINE : GlD K mg "FOOT_LINE" (.tuple [(.str ""), (.int 0), (.int 1)])) (C_number_of : Cal P w K mg base 1 "number_of" φ_number_of) (C_is_put_line : Cal P w K mg base 4 "is_put_line" φ_is_put_line) : Cal P w K mg base 5 "line_of" φ_line_of := by
  have nd := sc_line_of.nd
  exact calD F sc_line_of len_line_of (fun f cdv A outer s H E hr =>
    (pds_cons (pds_if (pdt_eqX hr.units (pd_of_var (pv 0)) pd_str) (pds_one (pds_ret (pd_glT g_HEAD_LINE rfl)))
    pds_nil)
    (pds_cons (pds_if (pdt_eqX hr.units (pd_of_var (pv 0)) pd_str) (pds_one (pds_ret (pd_glT g_FOOT_LINE rfl)))
    pds_nil)
    (pds_cons (pds_set (i := 1) nd rfl (by first | exact Or.inl rfl | exact Or.inr rfl) (pd_ifE (pdt_truth (pd_isi (U := "str") rfl rfl n_isinstance rfl n_str (by decide +kernel) (pd_of_var (pv 0))) (by intro _; rfl)) (pd_split (mt := false) (pd_of_var (pv 0)) pd_str) (pd_lst pda_nil)))
    (pds_cons (pds_if (pdt_ne hr.units (pd_len rfl n_len (pda_cons (pd_of_var (pv 1)) pda_nil)) pd_int) (pds_one (pds_ret pd_non))
    pds_nil)
    (pds_cons (pds_set (i := 2) nd rfl (by first | exact Or.inl rfl | exact Or.inr rfl) (pd_tup (pda_cons (pd_item (pd_of_var (pv 1)) pd_int (fun _ _ => rfl)) (pda_cons (pd_callC C_number_of hr (by decide) rfl (pda_cons (pd_item (pd_of_var (pv 1)) pd_int (fun _ _ => rfl)) pda_nil)) (pda_cons (pd_callC C_number_of hr (by decide) rfl (pda_cons (pd_item (pd_of_var (pv 1)) pd_int (fun _ _ => rfl)) pda_nil)) pda_nil)))))
    (pds_one (pds_ret (pd_ifE (pdt_truth (pd_callC C_is_put_line hr (by decide) rfl (pda_cons (pd_of_var (pv 2)) pda_nil)) (by intro _; rfl)) (pd_of_var (pv 2)) pd_non))))))))) does_line_of
theorem ok_words_of (F : DfA K mg "words_of" s_words_of ["row"]) (n_isinstance : mg "isinstance" = none) (n_str : mg "str" = none)   : Cal P w K mg base 1 "words_of" φ_words_of := by
  have nd := sc_words_of.nd
  exact calD F sc_words_of len_words_of (fun f cdv A outer s H E hr =>
    (pds_cons (pds_if (pdt_not (pdt_truth (pd_isi (U := "str") rfl rfl n_isinstance rfl n_str (by decide +kernel) (pd_of_var (pv 0))) (by intro _; rfl))) (pds_one (pds_ret pd_non))
    pds_nil)
    (pds_cons (pds_set (i := 1) nd rfl (by first | exact Or.inl rfl | exact Or.inr rfl) (pd_split (mt := true) (pd_of_var (pv 0)) pd_str))
    (pds_cons (pds_if (pdt_inF pd_str (pd_of_var (pv 1))) (pds_one (pds_ret pd_non))
    pds_nil)
    (pds_one (pds_ret (pd_of_var (pv 1)))))))) does_words_of
theorem ok__law_mixed (F : DfA K mg "_law_mixed" s__law_mixed ["_law_cell", "_law_k"])    : Cal P w K mg base 1 "_law_mixed" φ__law_mixed := by
  have nd := sc__law_mixed.nd
  exact calD F sc__law_mixed len__law_mixed (fun f cdv A outer s H E hr =>
    (pds_cons (pds_set (i := 0) nd rfl (by first | exact Or.inl rfl | exact Or.inr rfl) (pd_add (pd_add (pd_mod (pd_of_var (pv 0)) pd_int) (pd_mul pd_int (pd_of_var (pv 1)))) pd_int))
    (pds_one (pds_ret (pd_mod (pd_mul (pd_mod (pd_mul (pd_of_var (pv 0)) (pd_of_var (pv 0))) pd_int) pd_int) pd_int))))) does__law_mixed
theorem ok__law_draw (F : DfA K mg "_law_draw" s__law_draw ["_law_cell", "_law_k"])   (C__law_mixed : Cal P w K mg base 1 "_law_mixed" φ__law_mixed) : Cal P w K mg base 2 "_law_draw" φ__law_draw := by
  have nd := sc__law_draw.nd
  exact calD F sc__law_draw len__law_draw (fun f cdv A outer s H E hr =>
    (pds_cons (pds_set (i := 2) nd rfl (by first | exact Or.inl rfl | exact Or.inr rfl) (pd_callC C__law_mixed hr (by decide) rfl (pda_cons (pd_of_var (pv 0)) (pda_cons (pd_of_var (pv 1)) pda_nil))))
    (pds_cons (pds_set (i := 3) nd rfl (by first | exact Or.inl rfl | exact Or.inr rfl) (pd_add (pd_add (pd_mul (pd_callC C__law_mixed hr (by decide) rfl (pda_cons (pd_of_var (pv 2)) (pda_cons (pd_add (pd_of_var (pv 1)) pd_int) pda_nil))) (pd_pow pd_int pd_int)) (pd_mul (pd_callC C__law_mixed hr (by decide) rfl (pda_cons (pd_of_var (pv 2)) (pda_cons (pd_add (pd_of_var (pv 1)) pd_int) pda_nil))) pd_int)) (pd_of_var (pv 2))))
    (pds_one (pds_ret (pd_disp (ps := [((dC (.str "left")), (dIfE (dB (dOp ρGe (dV 0) (dOp ρPow (dC (.int 10)) (dC (.int 18))))) (dV 0) (dV 3))), ((dC (.str "more")), (dIfE (dB (dOp ρGe (dV 0) (dOp ρPow (dC (.int 10)) (dC (.int 18))))) (dV 3) (dC (.int 0))))]) (pps_cons pd_str (pd_ifE (pdt_ge (pd_of_var (pv 0)) (pd_pow pd_int pd_int)) (pd_of_var (pv 0)) (pd_of_var (pv 3))) (pps_cons pd_str (pd_ifE (pdt_ge (pd_of_var (pv 0)) (pd_pow pd_int pd_int)) (pd_of_var (pv 3)) pd_int) pps_nil)) rfl rfl (fun z => by cases z) (by decide))))))) does__law_draw
theorem ok__law_digit (F : DfA K mg "_law_digit" s__law_digit ["_law_state", "_law_many"])    : Cal P w K mg base 1 "_law_digit" φ__law_digit := by
  have nd := sc__law_digit.nd
  exact calD F sc__law_digit len__law_digit (fun f cdv A outer s H E hr =>
    (pds_cons (pds_if (pdt_eq hr.units (pd_dk (hu_of hr) (pd_of_var (pv 0)) pd_str (fun _ _ => rfl)) pd_int) (pds_one (pds_subs (pd_tup (pda_cons (pd_dk (hu_of hr) (pd_of_var (pv 0)) pd_str (fun _ _ => rfl)) (pda_cons pd_int pda_nil))) (pg_tup rfl (pgs_cons (pg_sub (pd_of_var (pv 0)) pd_str (set_or set_list (set_dict (hu_of hr)))) (pgs_cons (pg_sub (pd_of_var (pv 0)) pd_str (set_or set_list (set_dict (hu_of hr)))) pgs_nil)))))
    pds_nil)
    (pds_cons (pds_set (i := 2) nd rfl (by first | exact Or.inl rfl | exact Or.inr rfl) (pd_mod (pd_dk (hu_of hr) (pd_of_var (pv 0)) pd_str (fun _ _ => rfl)) (pd_of_var (pv 1))))
    (pds_cons (pds_sub (hu_of hr) (pd_of_var (pv 0)) pd_str (pd_fdiv (pd_dk (hu_of hr) (pd_of_var (pv 0)) pd_str (fun _ _ => rfl)) (pd_of_var (pv 1))) (hx := pg_sub (pd_of_var (pv 0)) pd_str (set_or set_list (set_dict (hu_of hr)))))
    (pds_one (pds_ret (pd_of_var (pv 2)))))))) does__law_digit
theorem ok__law_word (F : DfA K mg "_law_word" s__law_word ["_law_state", "_law_signs"]) (n_range : mg "range" = none) (n_len : mg "len" = none)  (C__law_digit : Cal P w K mg base 1 "_law_digit" φ__law_digit) : Cal P w K mg base 2 "_law_word" φ__law_word := by
  have nd := sc__law_word.nd
  exact calD F sc__law_word len__law_word (fun f cdv A outer s H E hr =>
    (pds_one (pds_ret (pd_join pd_str (pd_lc (own := [("_law_k", 2)]) fin_D rfl nd (pdi_range1 rfl n_range (pda_cons (pd_callC C__law_digit hr (by decide) rfl (pda_cons (pd_of_var (pv 0)) (pda_cons pd_int pda_nil))) pda_nil)) (blkOk_by (own := [("_law_k", 2)]) (by kernel_rfl)) (by decide) (fun _ _ _ _ _ => (pdg_nm (i := 2) nd rfl (by first | exact Or.inl rfl | exact Or.inr rfl))) (fun _ _ _ _ _ => pdts_nil) (fun _ _ _ _ _ => (pd_item (pd_of_var (pv 1)) (pd_callC C__law_digit hr (by decide) rfl (pda_cons (pd_of_var (pv 0)) (pda_cons (pd_len rfl n_len (pda_cons (pd_of_var (pv 1)) pda_nil)) pda_nil))) (fun _ _ => rfl)))))))) does__law_word
theorem ok__law_is_word (F : DfA K mg "_law_is_word" s__law_is_word ["_law_word_here"]) (n_len : mg "len" = none)   : Cal P w K mg base 1 "_law_is_word" φ__law_is_word := by
  have nd := sc__law_is_word.nd
  exact calD F sc__law_is_word len__law_is_word (fun f cdv A outer s H E hr =>
    (pds_cons (pds_setLc (i := 1) (own := [("_law_sign", 2)]) fin_D rfl nd rfl rfl (sw_true rfl rfl rfl (by decide +kernel)) (pdi_str (pd_of_var (pv 0))) (blkOk_by (own := [("_law_sign", 2)]) (by kernel_rfl)) (by decide) (fun _ _ _ _ _ => (pdg_nm (i := 2) nd rfl (by first | exact Or.inl rfl | exact Or.inr rfl))) (fun _ _ _ _ _ => (pdts_one (pdt_inS (pd_of_var (pv 2)) pd_str))) (fun _ _ _ _ _ => (pd_of_var (pv 2))))
    (pds_one (pds_ret (pd_and (pd_leLe pd_int (pd_len rfl n_len (pda_cons (pd_of_var (pv 0)) pda_nil)) pd_int) (pd_one (pd_eq hr.units (pd_len rfl n_len (pda_cons (pd_of_var (pv 1)) pda_nil)) (pd_len rfl n_len (pda_cons (pd_of_var (pv 0)) pda_nil))))))))) does__law_is_word
theorem ok__law_number (F : DfA K mg "_law_number" s__law_number ["_law_word_here"]) (n_len : mg "len" = none)   : Cal P w K mg base 1 "_law_number" φ__law_number := by
  have nd := sc__law_number.nd
  exact calD F sc__law_number len__law_number (fun f cdv A outer s H E hr =>
    (pds_cons (pds_if (PW.pt (pdw_or (pdt_not (pdt_leLe pd_int (pd_len rfl n_len (pda_cons (pd_of_var (pv 0)) pda_nil)) pd_int)) (pdw_or1 (pdt_notInS (pd_item (pd_of_var (pv 0)) pd_int (fun _ _ => rfl)) pd_str)))) (pds_one (pds_ret pd_non))
    pds_nil)
    (pds_cons (pds_if (pdt_ne hr.units (pd_lc (own := [("_law_sign", 1)]) fin_D rfl nd (pdi_str (pd_of_var (pv 0))) (blkOk_by (own := [("_law_sign", 1)]) (by kernel_rfl)) (by decide) (fun _ _ _ _ _ => (pdg_nm (i := 1) nd rfl (by first | exact Or.inl rfl | exact Or.inr rfl))) (fun _ _ _ _ _ => (pdts_one (pdt_notInS (pd_of_var (pv 1)) pd_str))) (fun _ _ _ _ _ => (pd_of_var (pv 1)))) (pd_lst pda_nil)) (pds_one (pds_ret pd_non))
    pds_nil)
    (pds_cons (pds_set (i := 2) nd rfl (by first | exact Or.inl rfl | exact Or.inr rfl) pd_int)
    (pds_cons (pds_for PassesOwn.never rfl (pdi_str (pd_of_var (pv 0))) (pdg_nm (i := 1) nd rfl (by first | exact Or.inl rfl | exact Or.inr rfl))
    (pds_one (pds_set (i := 2) nd rfl (by first | exact Or.inl rfl | exact Or.inr rfl) (pd_add (pd_mul (pd_of_var (pv 2)) pd_int) (pd_sindex pd_str (pd_of_var (pv 1)))))))
    (pds_one (pds_ret (pd_of_var (pv 2))))))))) does__law_number
theorem ok__law_parts (F : DfA K mg "_law_parts" s__law_parts ["_law_word_here", "_law_many"]) (n_len : mg "len" = none) (n_tuple : mg "tuple" = none)  (C__law_is_word : Cal P w K mg base 1 "_law_is_word" φ__law_is_word) (C__law_number : Cal P w K mg base 1 "_law_number" φ__law_number) : Cal P w K mg base 2 "_law_parts" φ__law_parts := by
  have nd := sc__law_parts.nd
  exact calD F sc__law_parts len__law_parts (fun f cdv A outer s H E hr =>
    (pds_cons (pds_set (i := 2) nd rfl (by first | exact Or.inl rfl | exact Or.inr rfl) (pd_split (mt := false) (pd_of_var (pv 0)) pd_str))
    (pds_cons (pds_if (PW.pt (pdw_or (pdt_ne hr.units (pd_len rfl n_len (pda_cons (pd_of_var (pv 2)) pda_nil)) (pd_of_var (pv 1))) (pdw_or (pdt_not (pdt_truth (pd_callC C__law_is_word hr (by decide) rfl (pda_cons (pd_item (pd_of_var (pv 2)) pd_int (fun _ _ => rfl)) pda_nil)) (by intro _; rfl))) (pdw_or1 (pdt_inF (pd_item (pd_of_var (pv 2)) pd_int (fun _ _ => rfl)) (pd_lst (pda_cons pd_str (pda_cons pd_str (pda_cons pd_str pda_nil))))))))) (pds_one (pds_ret pd_non))
    pds_nil)
    (pds_cons (pds_setLc (i := 3) (own := [("_law_part", 4)]) fin_D rfl nd rfl rfl (sw_true rfl rfl rfl (by decide +kernel)) (pdi_seq (pd_slice (pd_of_var (pv 2)) (pdo_some pd_int) pdo_none)) (blkOk_by (own := [("_law_part", 4)]) (by kernel_rfl)) (by decide) (fun _ _ _ _ _ => (pdg_nm (i := 4) nd rfl (by first | exact Or.inl rfl | exact Or.inr rfl))) (fun _ _ _ _ _ => pdts_nil) (fun _ _ _ _ _ => (pd_callC C__law_number hr (by decide) rfl (pda_cons (pd_of_var (pv 4)) pda_nil))))
    (pds_cons (pds_if (PW.pt (pdw_or (pdt_inF pd_non (pd_of_var (pv 3))) (pdw_or1 (pdt_gt (pd_item (pd_of_var (pv 3)) pd_int (fun _ _ => rfl)) pd_int)))) (pds_one (pds_ret pd_non))
    pds_nil)
    (pds_one (pds_ret (pd_tuple rfl n_tuple (pda_cons (pd_add (pd_lst (pda_cons (pd_item (pd_of_var (pv 2)) pd_int (fun _ _ => rfl)) pda_nil)) (pd_of_var (pv 3))) pda_nil))))))))) does__law_parts
theorem ok__law_one (F : DfA K mg "_law_one" s__law_one ["_law_word_here"])   (C__law_parts : Cal P w K mg base 2 "_law_parts" φ__law_parts) (C_number_of : Cal P w K mg base 1 "number_of" φ_number_of) (C__law_number : Cal P w K mg base 1 "_law_number" φ__law_number) (C_name_of : Cal P w K mg base 4 "name_of" φ_name_of) (C_line_of : Cal P w K mg base 5 "line_of" φ_line_of) (C_line_text : Cal P w K mg base 1 "line_text" φ_line_text) (C_name_text : Cal P w K mg base 1 "name_text" φ_name_text) (C__law_is_word : Cal P w K mg base 1 "_law_is_word" φ__law_is_word) (C_is_word : Cal P w K mg base 1 "is_word" φ_is_word) (C_is_hand : Cal P w K mg base 2 "is_hand" φ_is_hand) : Cal P w K mg base 6 "_law_one" φ__law_one := by
  have nd := sc__law_one.nd
  exact calD F sc__law_one len__law_one (fun f cdv A outer s H E hr =>
    (pds_cons (pds_set (i := 1) nd rfl (by first | exact Or.inl rfl | exact Or.inr rfl) (pd_dget2 (hu_of hr) (pd_disp (ps := [((dC (.str "head")), (dTup (dCons (dC (.str "")) (dCons (dC (.int 0)) (dCons (dC (.int 0)) dNil))))), ((dC (.str "foot")), (dTup (dCons (dC (.str "")) (dCons (dC (.int 0)) (dCons (dC (.int 1)) dNil)))))]) (pps_cons pd_str (pd_tup (pda_cons pd_str (pda_cons pd_int (pda_cons pd_int pda_nil)))) (pps_cons pd_str (pd_tup (pda_cons pd_str (pda_cons pd_int (pda_cons pd_int pda_nil)))) pps_nil)) rfl rfl (fun z => by cases z) (by decide)) (pd_of_var (pv 0)) (pd_callC C__law_parts hr (by decide) rfl (pda_cons (pd_of_var (pv 0)) (pda_cons pd_int pda_nil))) (by constructor <;> rfl)))
    (pds_cons (pds_if (PW.pt (pdw_or (pdt_ne hr.units (pd_callC C_number_of hr (by decide) rfl (pda_cons (pd_of_var (pv 0)) pda_nil)) (pd_callC C__law_number hr (by decide) rfl (pda_cons (pd_of_var (pv 0)) pda_nil))) (pdw_or (pdt_ne hr.units (pd_callC C_name_of hr (by decide) rfl (pda_cons (pd_of_var (pv 0)) pda_nil)) (pd_callC C__law_parts hr (by decide) rfl (pda_cons (pd_of_var (pv 0)) (pda_cons pd_int pda_nil)))) (pdw_or1 (pdt_ne hr.units (pd_callC C_line_of hr (by decide) rfl (pda_cons (pd_of_var (pv 0)) pda_nil)) (pd_of_var (pv 1))))))) (pds_one (pds_ret pd_bl))
    pds_nil)
    (pds_cons (pds_if (PW.pt (pdw_and (pdt_notN (pd_of_var (pv 1)) pd_non) (pdw_and1 (pdt_ne hr.units (pd_callC C_line_text hr (by decide) rfl (pda_cons (pd_of_var (pv 1)) pda_nil)) (pd_of_var (pv 0)))))) (pds_one (pds_ret pd_bl))
    pds_nil)
    (pds_cons (pds_if (PW.pt (pdw_and (pdt_notN (pd_callC C_name_of hr (by decide) rfl (pda_cons (pd_of_var (pv 0)) pda_nil)) pd_non) (pdw_and1 (pdt_ne hr.units (pd_callC C_name_text hr (by decide) rfl (pda_cons (pd_callC C_name_of hr (by decide) rfl (pda_cons (pd_of_var (pv 0)) pda_nil)) pda_nil)) (pd_of_var (pv 0)))))) (pds_one (pds_ret pd_bl))
    pds_nil)
    (pds_cons (pds_set (i := 2) nd rfl (by first | exact Or.inl rfl | exact Or.inr rfl) (pd_and (pd_callC C__law_is_word hr (by decide) rfl (pda_cons (pd_of_var (pv 0)) pda_nil)) (pd_one (pd_notInF (pd_of_var (pv 0)) (pd_lst (pda_cons pd_str (pda_cons pd_str (pda_cons pd_str pda_nil))))))))
    (pds_one (pds_ret (pd_and (pd_eq hr.units (pd_callC C_is_word hr (by decide) rfl (pda_cons (pd_of_var (pv 0)) pda_nil)) (pd_callC C__law_is_word hr (by decide) rfl (pda_cons (pd_of_var (pv 0)) pda_nil))) (pd_one (pd_eq hr.units (pd_callC C_is_hand hr (by decide) rfl (pda_cons (pd_of_var (pv 0)) pda_nil)) (pd_of_var (pv 2))))))))))))) does__law_one
theorem ok__law_things (F : DfA K mg "_law_things" s__law_things ["_law_state"]) (n_list : mg "list" = none) (n_isinstance : mg "isinstance" = none) (n_bool : mg "bool" = none)  (C__law_digit : Cal P w K mg base 1 "_law_digit" φ__law_digit) (C_is_name : Cal P w K mg base 3 "is_name" φ_is_name) (C_is_put_line : Cal P w K mg base 4 "is_put_line" φ_is_put_line) (C_is_end : Cal P w K mg base 2 "is_end" φ_is_end) : Cal P w K mg base 5 "_law_things" φ__law_things := by
  have nd := sc__law_things.nd
  exact calD F sc__law_things len__law_things (fun f cdv A outer s H E hr =>
    (pds_cons (pds_set (i := 1) nd rfl (by first | exact Or.inl rfl | exact Or.inr rfl) (pd_item (pd_lst (pda_cons pd_str (pda_cons pd_str (pda_cons pd_str (pda_cons pd_str (pda_cons pd_str (pda_cons pd_str (pda_cons pd_str (pda_cons pd_int pda_nil))))))))) (pd_callC C__law_digit hr (by decide) rfl (pda_cons (pd_of_var (pv 0)) (pda_cons pd_int pda_nil))) (fun _ _ => rfl)))
    (pds_cons (pds_set (i := 2) nd rfl (by first | exact Or.inl rfl | exact Or.inr rfl) (pd_item (pd_lst (pda_cons pd_int (pda_cons pd_int (pda_cons pd_int (pda_cons pd_int (pda_cons pd_bl (pda_cons pd_str (pda_cons pd_int (pda_cons (pd_neg pd_int) pda_nil))))))))) (pd_callC C__law_digit hr (by decide) rfl (pda_cons (pd_of_var (pv 0)) (pda_cons pd_int pda_nil))) (fun _ _ => rfl)))
    (pds_cons (pds_set (i := 3) nd rfl (by first | exact Or.inl rfl | exact Or.inr rfl) (pd_item (pd_lst (pda_cons pd_int (pda_cons pd_int (pda_cons pd_int (pda_cons pd_bl (pda_cons pd_non (pda_cons (pd_pow pd_int pd_int) (pda_cons pd_str (pda_cons (pd_neg pd_int) pda_nil))))))))) (pd_callC C__law_digit hr (by decide) rfl (pda_cons (pd_of_var (pv 0)) (pda_cons pd_int pda_nil))) (fun _ _ => rfl)))
    (pds_cons (pds_set (i := 4) nd rfl (by first | exact Or.inl rfl | exact Or.inr rfl) (pd_and (pd_inF (pd_of_var (pv 1)) (pd_lst (pda_cons pd_str (pda_cons pd_str pda_nil)))) (pd_and (pd_inF (pd_of_var (pv 2)) (pd_lst (pda_cons pd_int (pda_cons pd_int (pda_cons pd_int pda_nil))))) (pd_one (pd_isNotB (pd_of_var (pv 2)) pd_bl)))))
    (pds_cons (pds_if (PW.pt (pdw_or (pdt_ne hr.units (pd_callC C_is_name hr (by decide) rfl (pda_cons (pd_tup (pda_cons (pd_of_var (pv 1)) (pda_cons (pd_of_var (pv 2)) pda_nil))) pda_nil)) (pd_of_var (pv 4))) (pdw_or (pdt_truth (pd_callC C_is_name hr (by decide) rfl (pda_cons (pd_lst (pda_cons (pd_of_var (pv 1)) (pda_cons (pd_of_var (pv 2)) pda_nil))) pda_nil)) (by intro _; rfl)) (pdw_or1 (pdt_truth (pd_callC C_is_name hr (by decide) rfl (pda_cons (pd_tup (pda_cons (pd_of_var (pv 1)) (pda_cons (pd_of_var (pv 2)) (pda_cons (pd_of_var (pv 3)) pda_nil)))) pda_nil)) (by intro _; rfl)))))) (pds_one (pds_ret pd_bl))
    pds_nil)
    (pds_cons (pds_set (i := 5) nd rfl (by first | exact Or.inl rfl | exact Or.inr rfl) (pd_and (pd_of_var (pv 4)) (pd_and (pd_inF (pd_of_var (pv 3)) (pd_lst (pda_cons pd_int (pda_cons pd_int (pda_cons (pd_pow pd_int pd_int) pda_nil))))) (pd_one (pd_isNotB (pd_of_var (pv 3)) pd_bl)))))
    (pds_cons (pds_set (i := 6) nd rfl (by first | exact Or.inl rfl | exact Or.inr rfl) (pd_tup (pda_cons (pd_of_var (pv 1)) (pda_cons (pd_of_var (pv 2)) (pda_cons (pd_of_var (pv 3)) pda_nil)))))
    (pds_cons (pds_if (PW.pt (pdw_or (pdt_ne hr.units (pd_callC C_is_put_line hr (by decide) rfl (pda_cons (pd_of_var (pv 6)) pda_nil)) (pd_of_var (pv 5))) (pdw_or (pdt_truth (pd_callC C_is_put_line hr (by decide) rfl (pda_cons (pd_list (fin := false) rfl n_list (pda_cons (pd_of_var (pv 6)) pda_nil)) pda_nil)) (by intro _; rfl)) (pdw_or1 (pdt_truth (pd_callC C_is_put_line hr (by decide) rfl (pda_cons (pd_slice (pd_of_var (pv 6)) pdo_none (pdo_some pd_int)) pda_nil)) (by intro _; rfl)))))) (pds_one (pds_ret pd_bl))
    pds_nil)
    (pds_cons (pds_set (i := 7) nd rfl (by first | exact Or.inl rfl | exact Or.inr rfl) (pd_tup (pda_cons pd_str (pda_cons (pd_item (pd_lst (pda_cons pd_int (pda_cons pd_int (pda_cons pd_bl (pda_cons pd_int pda_nil))))) (pd_callC C__law_digit hr (by decide) rfl (pda_cons (pd_of_var (pv 0)) (pda_cons pd_int pda_nil))) (fun _ _ => rfl)) (pda_cons (pd_item (pd_lst (pda_cons pd_int (pda_cons pd_int (pda_cons pd_bl (pda_cons pd_bl pda_nil))))) (pd_callC C__law_digit hr (by decide) rfl (pda_cons (pd_of_var (pv 0)) (pda_cons pd_int pda_nil))) (fun _ _ => rfl)) pda_nil)))))
    (pds_cons (pds_set (i := 8) nd rfl (by first | exact Or.inl rfl | exact Or.inr rfl) (pd_and (pd_eq hr.units (pd_of_var (pv 7)) (pd_tup (pda_cons pd_str (pda_cons pd_int (pda_cons (pd_item (pd_of_var (pv 7)) pd_int (fun _ _ => rfl)) pda_nil))))) (pd_and (pd_not (pd_isi (U := "bool") rfl rfl n_isinstance rfl n_bool (by decide +kernel) (pd_item (pd_of_var (pv 7)) pd_int (fun _ _ => rfl)))) (pd_one (pd_not (pd_isi (U := "bool") rfl rfl n_isinstance rfl n_bool (by decide +kernel) (pd_item (pd_of_var (pv 7)) pd_int (fun _ _ => rfl))))))))
    (pds_one (pds_ret (pd_and (pd_eq hr.units (pd_callC C_is_end hr (by decide) rfl (pda_cons (pd_of_var (pv 7)) pda_nil)) (pd_of_var (pv 8))) (pd_and (pd_not (pd_callC C_is_end hr (by decide) rfl (pda_cons (pd_list (fin := false) rfl n_list (pda_cons (pd_of_var (pv 7)) pda_nil)) pda_nil))) (pd_and (pd_not (pd_callC C_is_end hr (by decide) rfl (pda_cons (pd_tup (pda_cons pd_str (pda_cons pd_int (pda_cons pd_int pda_nil)))) pda_nil))) (pd_one (pd_not (pd_callC C_is_end hr (by decide) rfl (pda_cons (pd_tup (pda_cons pd_str (pda_cons pd_int pda_nil))) pda_nil)))))))))))))))))))) does__law_things
theorem ok__law_row (F : DfA K mg "_law_row" s__law_row ["_law_words", "_law_number_here"]) (n_range : mg "range" = none) (n_isinstance : mg "isinstance" = none) (n_list : mg "list" = none) (n_len : mg "len" = none)  (C_words_of : Cal P w K mg base 1 "words_of" φ_words_of) : Cal P w K mg base 2 "_law_row" φ__law_row := by
  have nd := sc__law_row.nd
  exact calD F sc__law_row len__law_row (fun f cdv A outer s H E hr =>
    (pds_cons (pds_set (i := 2) nd rfl (by first | exact Or.inl rfl | exact Or.inr rfl) (pd_join pd_str (pd_of_var (pv 0))))
    (pds_cons (pds_for PassesOwn.never rfl (pdi_range1 rfl n_range (pda_cons pd_int pda_nil)) (pdg_nm (i := 3) nd rfl (by first | exact Or.inl rfl | exact Or.inr rfl))
    (pds_cons (pds_set (i := 4) nd rfl (by first | exact Or.inl rfl | exact Or.inr rfl) (pd_callC C_words_of hr (by decide) rfl (pda_cons (pd_of_var (pv 2)) pda_nil)))
    (pds_cons (pds_if (PW.pt (pdw_or (pdt_not (pdt_truth (pd_isi (U := "list") rfl rfl n_isinstance rfl n_list (by decide +kernel) (pd_of_var (pv 4))) (by intro _; rfl))) (pdw_or1 (pdt_ne hr.units (pd_of_var (pv 4)) (pd_of_var (pv 0)))))) (pds_one (pds_ret pd_bl))
    pds_nil)
    (pds_one (pds_expr (pd_append (pd_of_var (pv 4)) (pda_cons pd_str pda_nil)))))))
    (pds_cons (pds_set (i := 5) nd rfl (by first | exact Or.inl rfl | exact Or.inr rfl) (pd_mod (pd_of_var (pv 1)) (pd_add (pd_len rfl n_len (pda_cons (pd_of_var (pv 2)) pda_nil)) pd_int)))
    (pds_cons (pds_set (i := 6) nd rfl (by first | exact Or.inl rfl | exact Or.inr rfl) (pd_split (mt := false) (pd_add (pd_add (pd_slice (pd_of_var (pv 2)) pdo_none (pdo_some (pd_of_var (pv 5)))) pd_str) (pd_slice (pd_of_var (pv 2)) (pdo_some (pd_of_var (pv 5))) pdo_none)) pd_str))
    (pds_one (pds_ret (pd_eq hr.units (pd_callC C_words_of hr (by decide) rfl (pda_cons (pd_add (pd_add (pd_slice (pd_of_var (pv 2)) pdo_none (pdo_some (pd_of_var (pv 5)))) pd_str) (pd_slice (pd_of_var (pv 2)) (pdo_some (pd_of_var (pv 5))) pdo_none)) pda_nil)) (pd_ifE (pdt_inF pd_str (pd_of_var (pv 6))) pd_non (pd_of_var (pv 6))))))))))) does__law_row
theorem ok_law {f : Addr} {fd : FuncData} (F : Fun K "law" "law" s_law f fd) (n_enumerate : mg "enumerate" = none) (n_sum : mg "sum" = none) (n_str : mg "str" = none)  (C__law_draw : Cal P w K mg base 2 "_law_draw" φ__law_draw) (C__law_things : Cal P w K mg base 5 "_law_things" φ__law_things) (C__law_word : Cal P w K mg base 2 "_law_word" φ__law_word) (C__law_digit : Cal P w K mg base 1 "_law_digit" φ__law_digit) (C__law_one : Cal P w K mg base 6 "_law_one" φ__law_one) (C_line_of : Cal P w K mg base 5 "line_of" φ_line_of) (C_name_of : Cal P w K mg base 4 "name_of" φ_name_of) (C_words_of : Cal P w K mg base 1 "words_of" φ_words_of) (C_number_of : Cal P w K mg base 1 "number_of" φ_number_of) (C_is_word : Cal P w K mg base 1 "is_word" φ_is_word) (C_is_hand : Cal P w K mg base 2 "is_hand" φ_is_hand) (C_is_name : Cal P w K mg base 3 "is_name" φ_is_name) (C_is_put_line : Cal P w K mg base 4 "is_put_line" φ_is_put_line) (C_is_end : Cal P w K mg base 2 "is_end" φ_is_end) (C_is_whole : Cal P w K mg base 1 "is_whole" φ_is_whole) (C_is_among : Cal P w K mg base 2 "is_among" φ_is_among) (C__law_row : Cal P w K mg base 2 "_law_row" φ__law_row) (C__law_mixed : Cal P w K mg base 1 "_law_mixed" φ__law_mixed) : FnOk P w K mg base CX0 7 f fd ["_law_script"] (spD K φ_law) := by
  have nd := sc_law.nd
  exact okD F sc_law len_law (fun cdv A outer s H E hr =>
    (pds_cons (pds_set (i := 1) nd rfl (by first | exact Or.inl rfl | exact Or.inr rfl) (pd_lst pda_nil))
    (pds_cons (pds_for PassesOwn.never rfl (pdi_enum rfl n_enumerate (pda_cons (pd_add (pd_slice (pd_of_var (pv 0)) pdo_none (pdo_some pd_int)) (pd_lst (pda_cons (pd_sum rfl rfl n_sum (pda_cons (pd_of_var (pv 0)) pda_nil)) pda_nil))) pda_nil)) (pdg_tp (js := [2, 3]) rfl (pdgs_cons (i := 2) (js := [3]) nd rfl (by first | exact Or.inl rfl | exact Or.inr rfl) (pdgs_cons (i := 3) (js := []) nd rfl (by first | exact Or.inl rfl | exact Or.inr rfl) pgs_nil)))
    (pds_cons (pds_set (i := 4) nd rfl (by first | exact Or.inl rfl | exact Or.inr rfl) (pd_callC C__law_draw hr (by decide) rfl (pda_cons (pd_of_var (pv 3)) (pda_cons (pd_of_var (pv 2)) pda_nil))))
    (pds_cons (pds_if (pdt_not (pdt_truth (pd_callC C__law_things hr (by decide) rfl (pda_cons (pd_of_var (pv 4)) pda_nil)) (by intro _; rfl))) (pds_one (pds_ret pd_bl))
    pds_nil)
    (pds_cons (pds_set (i := 5) nd rfl (by first | exact Or.inl rfl | exact Or.inr rfl) (pd_callC C__law_word hr (by decide) rfl (pda_cons (pd_of_var (pv 4)) (pda_cons (pd_item (pd_lst (pda_cons pd_str (pda_cons pd_str (pda_cons pd_str (pda_cons pd_str (pda_cons pd_str pda_nil)))))) (pd_callC C__law_digit hr (by decide) rfl (pda_cons (pd_of_var (pv 4)) (pda_cons pd_int pda_nil))) (fun _ _ => rfl)) pda_nil))))
    (pds_cons (pds_set (i := 6) nd rfl (by first | exact Or.inl rfl | exact Or.inr rfl) (pd_add (pd_add (pd_item pd_str (pd_callC C__law_digit hr (by decide) rfl (pda_cons (pd_of_var (pv 4)) (pda_cons pd_int pda_nil))) (fun _ _ => rfl)) pd_str) (pd_strI rfl n_str (pda_cons (pd_callC C__law_digit hr (by decide) rfl (pda_cons (pd_of_var (pv 4)) (pda_cons pd_int pda_nil))) pda_nil))))
    (pds_cons (pds_set (i := 7) nd rfl (by first | exact Or.inl rfl | exact Or.inr rfl) (pd_lst (pda_cons (pd_of_var (pv 5)) (pda_cons (pd_of_var (pv 6)) (pda_cons (pd_add (pd_add (pd_of_var (pv 6)) pd_str) (pd_strI rfl n_str (pda_cons (pd_callC C__law_digit hr (by decide) rfl (pda_cons (pd_of_var (pv 4)) (pda_cons pd_int pda_nil))) pda_nil))) (pda_cons (pd_strI rfl n_str (pda_cons (pd_callC C__law_digit hr (by decide) rfl (pda_cons (pd_of_var (pv 4)) (pda_cons pd_int pda_nil))) pda_nil)) pda_nil))))))
    (pds_cons (pds_for PassesOwn.never rfl (pdi_seq (pd_add (pd_of_var (pv 7)) (pd_lst (pda_cons pd_str (pda_cons pd_str pda_nil))))) (pdg_nm (i := 8) nd rfl (by first | exact Or.inl rfl | exact Or.inr rfl))
    (pds_one (pds_if (pdt_not (pdt_truth (pd_callC C__law_one hr (by decide) rfl (pda_cons (pd_of_var (pv 8)) pda_nil)) (by intro _; rfl))) (pds_one (pds_ret pd_bl))
    pds_nil)))
    (pds_cons (pds_set (i := 1) nd rfl (by first | exact Or.inl rfl | exact Or.inr rfl) (pd_add (pd_of_var (pv 1)) (pd_lst (pda_cons (pd_catR (pd_of_var (pv 5))) pda_nil))))
    (pds_cons (pds_set (i := 9) nd rfl (by first | exact Or.inl rfl | exact Or.inr rfl) (pd_item (pd_lstM (pda_cons pd_non (pda_cons pd_bl (pda_cons pd_int (pda_cons (pd_lst pda_nil) (pda_cons (pd_lst (pda_cons pd_str pda_nil)) (pda_cons pd_newK (pda_cons (pd_tup (pda_cons pd_str pda_nil)) (pda_cons (pd_neg pd_int) pda_nil))))))))) (pd_mod (pd_of_var (pv 3)) pd_int) (fun _ _ => rfl)))
    (pds_cons (pds_set (i := 10) nd rfl (by first | exact Or.inl rfl | exact Or.inr rfl) (pd_lst (pda_cons (pd_callC C_number_of hr (by decide) rfl (pda_cons (pd_of_var (pv 9)) pda_nil)) (pda_cons (pd_callC C_words_of hr (by decide) rfl (pda_cons (pd_of_var (pv 9)) pda_nil)) (pda_cons (pd_callC C_name_of hr (by decide) rfl (pda_cons (pd_of_var (pv 9)) pda_nil)) (pda_cons (pd_callC C_line_of hr (by decide) rfl (pda_cons (pd_of_var (pv 9)) pda_nil)) pda_nil))))))
    (pds_cons (pds_if (PW.pt (pdw_or (pdt_ne hr.units (pd_of_var (pv 10)) (pd_mul (pd_lst (pda_cons pd_non pda_nil)) pd_int)) (pdw_or (pdt_truth (pd_callC C_is_word hr (by decide) rfl (pda_cons (pd_of_var (pv 9)) pda_nil)) (by intro _; rfl)) (pdw_or (pdt_truth (pd_callC C_is_hand hr (by decide) rfl (pda_cons (pd_of_var (pv 9)) pda_nil)) (by intro _; rfl)) (pdw_or (pdt_truth (pd_callC C_is_name hr (by decide) rfl (pda_cons (pd_of_var (pv 9)) pda_nil)) (by intro _; rfl)) (pdw_or (pdt_truth (pd_callC C_is_put_line hr (by decide) rfl (pda_cons (pd_of_var (pv 9)) pda_nil)) (by intro _; rfl)) (pdw_or1 (pdt_truth (pd_callC C_is_end hr (by decide) rfl (pda_cons (pd_of_var (pv 9)) pda_nil)) (by intro _; rfl))))))))) (pds_one (pds_ret pd_bl))
    pds_nil)
    (pds_cons (pds_set (i := 11) nd rfl (by first | exact Or.inl rfl | exact Or.inr rfl) (pd_inF (pd_mod (pd_of_var (pv 3)) pd_int) (pd_tup (pda_cons pd_int (pda_cons pd_int pda_nil)))))
    (pds_cons (pds_if (PW.pt (pdw_or (pdt_ne hr.units (pd_callC C_is_whole hr (by decide) rfl (pda_cons (pd_of_var (pv 9)) pda_nil)) (pd_of_var (pv 11))) (pdw_or (pdt_ne hr.units (pd_callC C_is_among hr (by decide) rfl (pda_cons (pd_of_var (pv 9)) (pda_cons (pd_neg pd_int) (pda_cons pd_int pda_nil)))) (pd_of_var (pv 11))) (pdw_or1 (pdt_isNotB (pd_callC C_is_among hr (by decide) rfl (pda_cons (pd_of_var (pv 9)) (pda_cons (pd_neg pd_int) (pda_cons pd_int pda_nil)))) pd_bl))))) (pds_one (pds_ret pd_bl))
    pds_nil)
    (pds_cons (pds_set (i := 12) nd rfl (by first | exact Or.inl rfl | exact Or.inr rfl) (pd_mod (pd_of_var (pv 3)) (pd_pow pd_int pd_int)))
    (pds_one (pds_if (PW.pt (pdw_or (pdt_isNotB (pd_callC C_is_among hr (by decide) rfl (pda_cons (pd_of_var (pv 12)) (pda_cons (pd_sub (pd_of_var (pv 12)) pd_int) (pda_cons (pd_of_var (pv 12)) pda_nil)))) pd_bl) (pdw_or1 (pdt_isNotB (pd_callC C_is_among hr (by decide) rfl (pda_cons (pd_of_var (pv 12)) (pda_cons (pd_add (pd_of_var (pv 12)) pd_int) (pda_cons (pd_add (pd_of_var (pv 12)) pd_int) pda_nil)))) pd_bl)))) (pds_one (pds_ret pd_bl))
    pds_nil))))))))))))))))
    (pds_one (pds_ret (pd_and (pd_isN (pd_callC C_words_of hr (by decide) rfl (pda_cons pd_str pda_nil)) pd_non) (pd_one (pd_callC C__law_row hr (by decide) rfl (pda_cons (pd_of_var (pv 1)) (pda_cons (pd_callC C__law_mixed hr (by decide) rfl (pda_cons (pd_sum rfl rfl n_sum (pda_cons (pd_of_var (pv 0)) pda_nil)) (pda_cons pd_int pda_nil))) pda_nil)))))))))) does_law
end
end K01
set_option Elab.async false
set_option linter.all false
set_option maxRecDepth 100000
set_option maxHeartbeats 4000000
namespace K01
open PySem PySem.Spec PyProof.Rows L2 DL
theorem all_mk {l : PySem.W.OpenLaw} {w : World} {K : PySem.W.Frag} {h : Heap} {mg : Str → Option Value} {fa f0 f1 f2 f3 f4 f5 f6 f7 f8 f9 f10 f11 f12 f13 f14 f15 f16 f17 f18 f19 f20 f21 f22 f23 : Addr} (X : K.In h) (G : h.Ns mainGlobals mg) (hfa : mg "law" = some (.ref fa))
    {od0 an0 od1 an1 od2 an2 od3 an3 od4 an4 od5 an5 od6 an6 od7 an7 od8 an8 od9 an9 od10 an10 od11 an11 od12 an12 od13 an13 od14 an14 od15 an15 od16 an16 od17 an17 od18 an18 od19 an19 od20 an20 od21 an21 od22 an22 od23 an23 : Option Addr} {sl0 sl1 sl2 sl3 sl4 sl5 sl6 sl7 sl8 sl9 sl10 sl11 sl12 sl13 sl14 sl15 sl16 sl17 sl18 sl19 sl20 sl21 sl22 sl23 : Array (Option Value)} {oc0 kV0 dc0 pm0 cd0 ct0 oc1 kV1 dc1 pm1 cd1 ct1 oc2 kV2 dc2 pm2 cd2 ct2 oc3 kV3 dc3 pm3 cd3 ct3 oc4 kV4 dc4 pm4 cd4 ct4 oc5 kV5 dc5 pm5 cd5 ct5 oc6 kV6 dc6 pm6 cd6 ct6 oc7 kV7 dc7 pm7 cd7 ct7 oc8 kV8 dc8 pm8 cd8 ct8 oc9 kV9 dc9 pm9 cd9 ct9 oc10 kV10 dc10 pm10 cd10 ct10 oc11 kV11 dc11 pm11 cd11 ct11 oc12 kV12 dc12 pm12 cd12 ct12 oc13 kV13 dc13 pm13 cd13 ct13 oc14 kV14 dc14 pm14 cd14 ct14 oc15 kV15 dc15 pm15 cd15 ct15 oc16 kV16 dc16 pm16 cd16 ct16 oc17 kV17 dc17 pm17 cd17 ct17 oc18 kV18 dc18 pm18 cd18 ct18 oc19 kV19 dc19 pm19 cd19 ct19 oc20 kV20 dc20 pm20 cd20 ct20 oc21 kV21 dc21 pm21 cd21 ct21 oc22 kV22 dc22 pm22 cd22 ct22 oc23 kV23 dc23 pm23 cd23 ct23 : Value}
    (a0 : PySem.W.nsIn K mainGlobals "is_whole" = some (some (.ref f0))) (l0 : K.lookup f0 = some ⟨oc0, od0, .func (PySem.W.fnOf "is_whole" "is_whole" (defArgs s_is_whole) (defBody s_is_whole) (defScope s_is_whole) .none kV0 dc0 pm0 an0 cd0 ct0), sl0⟩) (c0 : PySem.W.codeIn K cd0 "is_whole" = true) (k0 : PySem.W.keepIn K (.ref f0) = true)
    (a1 : PySem.W.nsIn K mainGlobals "is_among" = some (some (.ref f1))) (l1 : K.lookup f1 = some ⟨oc1, od1, .func (PySem.W.fnOf "is_among" "is_among" (defArgs s_is_among) (defBody s_is_among) (defScope s_is_among) .none kV1 dc1 pm1 an1 cd1 ct1), sl1⟩) (c1 : PySem.W.codeIn K cd1 "is_among" = true) (k1 : PySem.W.keepIn K (.ref f1) = true)
    (a2 : PySem.W.nsIn K mainGlobals "is_word" = some (some (.ref f2))) (l2 : K.lookup f2 = some ⟨oc2, od2, .func (PySem.W.fnOf "is_word" "is_word" (defArgs s_is_word) (defBody s_is_word) (defScope s_is_word) .none kV2 dc2 pm2 an2 cd2 ct2), sl2⟩) (c2 : PySem.W.codeIn K cd2 "is_word" = true) (k2 : PySem.W.keepIn K (.ref f2) = true)
    (a3 : PySem.W.nsIn K mainGlobals "is_hand" = some (some (.ref f3))) (l3 : K.lookup f3 = some ⟨oc3, od3, .func (PySem.W.fnOf "is_hand" "is_hand" (defArgs s_is_hand) (defBody s_is_hand) (defScope s_is_hand) .none kV3 dc3 pm3 an3 cd3 ct3), sl3⟩) (c3 : PySem.W.codeIn K cd3 "is_hand" = true) (k3 : PySem.W.keepIn K (.ref f3) = true)
    (a4 : PySem.W.nsIn K mainGlobals "is_name" = some (some (.ref f4))) (l4 : K.lookup f4 = some ⟨oc4, od4, .func (PySem.W.fnOf "is_name" "is_name" (defArgs s_is_name) (defBody s_is_name) (defScope s_is_name) .none kV4 dc4 pm4 an4 cd4 ct4), sl4⟩) (c4 : PySem.W.codeIn K cd4 "is_name" = true) (k4 : PySem.W.keepIn K (.ref f4) = true)
    (a5 : PySem.W.nsIn K mainGlobals "is_put_line" = some (some (.ref f5))) (l5 : K.lookup f5 = some ⟨oc5, od5, .func (PySem.W.fnOf "is_put_line" "is_put_line" (defArgs s_is_put_line) (defBody s_is_put_line) (defScope s_is_put_line) .none kV5 dc5 pm5 an5 cd5 ct5), sl5⟩) (c5 : PySem.W.codeIn K cd5 "is_put_line" = true) (k5 : PySem.W.keepIn K (.ref f5) = true)
    (a6 : PySem.W.nsIn K mainGlobals "is_end" = some (some (.ref f6))) (l6 : K.lookup f6 = some ⟨oc6, od6, .func (PySem.W.fnOf "is_end" "is_end" (defArgs s_is_end) (defBody s_is_end) (defScope s_is_end) .none kV6 dc6 pm6 an6 cd6 ct6), sl6⟩) (c6 : PySem.W.codeIn K cd6 "is_end" = true) (k6 : PySem.W.keepIn K (.ref f6) = true)
    (a7 : PySem.W.nsIn K mainGlobals "number_of" = some (some (.ref f7))) (l7 : K.lookup f7 = some ⟨oc7, od7, .func (PySem.W.fnOf "number_of" "number_of" (defArgs s_number_of) (defBody s_number_of) (defScope s_number_of) .none kV7 dc7 pm7 an7 cd7 ct7), sl7⟩) (c7 : PySem.W.codeIn K cd7 "number_of" = true) (k7 : PySem.W.keepIn K (.ref f7) = true)
    (a8 : PySem.W.nsIn K mainGlobals "name_text" = some (some (.ref f8))) (l8 : K.lookup f8 = some ⟨oc8, od8, .func (PySem.W.fnOf "name_text" "name_text" (defArgs s_name_text) (defBody s_name_text) (defScope s_name_text) .none kV8 dc8 pm8 an8 cd8 ct8), sl8⟩) (c8 : PySem.W.codeIn K cd8 "name_text" = true) (k8 : PySem.W.keepIn K (.ref f8) = true)
    (a9 : PySem.W.nsIn K mainGlobals "line_text" = some (some (.ref f9))) (l9 : K.lookup f9 = some ⟨oc9, od9, .func (PySem.W.fnOf "line_text" "line_text" (defArgs s_line_text) (defBody s_line_text) (defScope s_line_text) .none kV9 dc9 pm9 an9 cd9 ct9), sl9⟩) (c9 : PySem.W.codeIn K cd9 "line_text" = true) (k9 : PySem.W.keepIn K (.ref f9) = true)
    (a10 : PySem.W.nsIn K mainGlobals "name_of" = some (some (.ref f10))) (l10 : K.lookup f10 = some ⟨oc10, od10, .func (PySem.W.fnOf "name_of" "name_of" (defArgs s_name_of) (defBody s_name_of) (defScope s_name_of) .none kV10 dc10 pm10 an10 cd10 ct10), sl10⟩) (c10 : PySem.W.codeIn K cd10 "name_of" = true) (k10 : PySem.W.keepIn K (.ref f10) = true)
    (a11 : PySem.W.nsIn K mainGlobals "line_of" = some (some (.ref f11))) (l11 : K.lookup f11 = some ⟨oc11, od11, .func (PySem.W.fnOf "line_of" "line_of" (defArgs s_line_of) (defBody s_line_of) (defScope s_line_of) .none kV11 dc11 pm11 an11 cd11 ct11), sl11⟩) (c11 : PySem.W.codeIn K cd11 "line_of" = true) (k11 : PySem.W.keepIn K (.ref f11) = true)
    (a12 : PySem.W.nsIn K mainGlobals "words_of" = some (some (.ref f12))) (l12 : K.lookup f12 = some ⟨oc12, od12, .func (PySem.W.fnOf "words_of" "words_of" (defArgs s_words_of) (defBody s_words_of) (defScope s_words_of) .none kV12 dc12 pm12 an12 cd12 ct12), sl12⟩) (c12 : PySem.W.codeIn K cd12 "words_of" = true) (k12 : PySem.W.keepIn K (.ref f12) = true)
    (a13 : PySem.W.nsIn K mainGlobals "_law_mixed" = some (some (.ref f13))) (l13 : K.lookup f13 = some ⟨oc13, od13, .func (PySem.W.fnOf "_law_mixed" "_law_mixed" (defArgs s__law_mixed) (defBody s__law_mixed) (defScope s__law_mixed) .none kV13 dc13 pm13 an13 cd13 ct13), sl13⟩) (c13 : PySem.W.codeIn K cd13 "_law_mixed" = true) (k13 : PySem.W.keepIn K (.ref f13) = true)
    (a14 : PySem.W.nsIn K mainGlobals "_law_draw" = some (some (.ref f14))) (l14 : K.lookup f14 = some ⟨oc14, od14, .func (PySem.W.fnOf "_law_draw" "_law_draw" (defArgs s__law_draw) (defBody s__law_draw) (defScope s__law_draw) .none kV14 dc14 pm14 an14 cd14 ct14), sl14⟩) (c14 : PySem.W.codeIn K cd14 "_law_draw" = true) (k14 : PySem.W.keepIn K (.ref f14) = true)
    (a15 : PySem.W.nsIn K mainGlobals "_law_digit" = some (some (.ref f15))) (l15 : K.lookup f15 = some ⟨oc15, od15, .func (PySem.W.fnOf "_law_digit" "_law_digit" (defArgs s__law_digit) (defBody s__law_digit) (defScope s__law_digit) .none kV15 dc15 pm15 an15 cd15 ct15), sl15⟩) (c15 : PySem.W.codeIn K cd15 "_law_digit" = true) (k15 : PySem.W.keepIn K (.ref f15) = true)
    (a16 : PySem.W.nsIn K mainGlobals "_law_word" = some (some (.ref f16))) (l16 : K.lookup f16 = some ⟨oc16, od16, .func (PySem.W.fnOf "_law_word" "_law_word" (defArgs s__law_word) (defBody s__law_word) (defScope s__law_word) .none kV16 dc16 pm16 an16 cd16 ct16), sl16⟩) (c16 : PySem.W.codeIn K cd16 "_law_word" = true) (k16 : PySem.W.keepIn K (.ref f16) = true)
    (a17 : PySem.W.nsIn K mainGlobals "_law_is_word" = some (some (.ref f17))) (l17 : K.lookup f17 = some ⟨oc17, od17, .func (PySem.W.fnOf "_law_is_word" "_law_is_word" (defArgs s__law_is_word) (defBody s__law_is_word) (defScope s__law_is_word) .none kV17 dc17 pm17 an17 cd17 ct17), sl17⟩) (c17 : PySem.W.codeIn K cd17 "_law_is_word" = true) (k17 : PySem.W.keepIn K (.ref f17) = true)
    (a18 : PySem.W.nsIn K mainGlobals "_law_number" = some (some (.ref f18))) (l18 : K.lookup f18 = some ⟨oc18, od18, .func (PySem.W.fnOf "_law_number" "_law_number" (defArgs s__law_number) (defBody s__law_number) (defScope s__law_number) .none kV18 dc18 pm18 an18 cd18 ct18), sl18⟩) (c18 : PySem.W.codeIn K cd18 "_law_number" = true) (k18 : PySem.W.keepIn K (.ref f18) = true)
    (a19 : PySem.W.nsIn K mainGlobals "_law_parts" = some (some (.ref f19))) (l19 : K.lookup f19 = some ⟨oc19, od19, .func (PySem.W.fnOf "_law_parts" "_law_parts" (defArgs s__law_parts) (defBody s__law_parts) (defScope s__law_parts) .none kV19 dc19 pm19 an19 cd19 ct19), sl19⟩) (c19 : PySem.W.codeIn K cd19 "_law_parts" = true) (k19 : PySem.W.keepIn K (.ref f19) = true)
    (a20 : PySem.W.nsIn K mainGlobals "_law_one" = some (some (.ref f20))) (l20 : K.lookup f20 = some ⟨oc20, od20, .func (PySem.W.fnOf "_law_one" "_law_one" (defArgs s__law_one) (defBody s__law_one) (defScope s__law_one) .none kV20 dc20 pm20 an20 cd20 ct20), sl20⟩) (c20 : PySem.W.codeIn K cd20 "_law_one" = true) (k20 : PySem.W.keepIn K (.ref f20) = true)
    (a21 : PySem.W.nsIn K mainGlobals "_law_things" = some (some (.ref f21))) (l21 : K.lookup f21 = some ⟨oc21, od21, .func (PySem.W.fnOf "_law_things" "_law_things" (defArgs s__law_things) (defBody s__law_things) (defScope s__law_things) .none kV21 dc21 pm21 an21 cd21 ct21), sl21⟩) (c21 : PySem.W.codeIn K cd21 "_law_things" = true) (k21 : PySem.W.keepIn K (.ref f21) = true)
    (a22 : PySem.W.nsIn K mainGlobals "_law_row" = some (some (.ref f22))) (l22 : K.lookup f22 = some ⟨oc22, od22, .func (PySem.W.fnOf "_law_row" "_law_row" (defArgs s__law_row) (defBody s__law_row) (defScope s__law_row) .none kV22 dc22 pm22 an22 cd22 ct22), sl22⟩) (c22 : PySem.W.codeIn K cd22 "_law_row" = true) (k22 : PySem.W.keepIn K (.ref f22) = true)
    (a23 : PySem.W.nsIn K mainGlobals "law" = some (some (.ref f23))) (l23 : K.lookup f23 = some ⟨oc23, od23, .func (PySem.W.fnOf "law" "law" (defArgs s_law) (defBody s_law) (defScope s_law) .none kV23 dc23 pm23 an23 cd23 ct23), sl23⟩) (c23 : PySem.W.codeIn K cd23 "law" = true) (k23 : PySem.W.keepIn K (.ref f23) = true)
    (z_isinstance : PySem.W.nsIn K mainGlobals "isinstance" = some none) (z_int : PySem.W.nsIn K mainGlobals "int" = some none) (z_bool : PySem.W.nsIn K mainGlobals "bool" = some none) (z_str : PySem.W.nsIn K mainGlobals "str" = some none) (z_len : PySem.W.nsIn K mainGlobals "len" = some none) (z_all : PySem.W.nsIn K mainGlobals "all" = some none) (z_tuple : PySem.W.nsIn K mainGlobals "tuple" = some none) (z_range : PySem.W.nsIn K mainGlobals "range" = some none) (z_list : PySem.W.nsIn K mainGlobals "list" = some none) (z_enumerate : PySem.W.nsIn K mainGlobals "enumerate" = some none) (z_sum : PySem.W.nsIn K mainGlobals "sum" = some none)
    {u_MOST_LETTERS : Value} (ga_MOST_LETTERS : PySem.W.nsIn K mainGlobals "MOST_LETTERS" = some (some u_MOST_LETTERS)) (gd_MOST_LETTERS : valIs u_MOST_LETTERS (.int 8) = true)
    {u_LETTERS : Value} (ga_LETTERS : PySem.W.nsIn K mainGlobals "LETTERS" = some (some u_LETTERS)) (gd_LETTERS : valIs u_LETTERS (.str "abcdefghijklmnopqrstuvwxyz") = true)
    {t_RESERVED : Addr} {od_RESERVED : Option Addr} {its_RESERVED : Array Value} {nn_RESERVED : Nat} {sl_RESERVED : Array (Option Value)} (ga_RESERVED : PySem.W.nsIn K mainGlobals "RESERVED" = some (some (.ref t_RESERVED))) (gb_RESERVED : K.lookup t_RESERVED = some ⟨.type "tuple", od_RESERVED, .seq its_RESERVED nn_RESERVED, sl_RESERVED⟩) (gc_RESERVED : its_RESERVED.size ≤ 1000) (gd_RESERVED : valsAre its_RESERVED.toList [(.str "head"), (.str "foot"), (.str "none")] = true)
    {u_MOST_NUMBER : Value} (ga_MOST_NUMBER : PySem.W.nsIn K mainGlobals "MOST_NUMBER" = some (some u_MOST_NUMBER)) (gd_MOST_NUMBER : valIs u_MOST_NUMBER (.int 999) = true)
    {t_HEAD_LINE : Addr} {od_HEAD_LINE : Option Addr} {its_HEAD_LINE : Array Value} {nn_HEAD_LINE : Nat} {sl_HEAD_LINE : Array (Option Value)} (ga_HEAD_LINE : PySem.W.nsIn K mainGlobals "HEAD_LINE" = some (some (.ref t_HEAD_LINE))) (gb_HEAD_LINE : K.lookup t_HEAD_LINE = some ⟨.type "tuple", od_HEAD_LINE, .seq its_HEAD_LINE nn_HEAD_LINE, sl_HEAD_LINE⟩) (gc_HEAD_LINE : its_HEAD_LINE.size ≤ 1000) (gd_HEAD_LINE : valsAre its_HEAD_LINE.toList [(.str ""), (.int 0), (.int 0)] = true)
    {t_FOOT_LINE : Addr} {od_FOOT_LINE : Option Addr} {its_FOOT_LINE : Array Value} {nn_FOOT_LINE : Nat} {sl_FOOT_LINE : Array (Option Value)} (ga_FOOT_LINE : PySem.W.nsIn K mainGlobals "FOOT_LINE" = some (some (.ref t_FOOT_LINE))) (gb_FOOT_LINE : K.lookup t_FOOT_LINE = some ⟨.type "tuple", od_FOOT_LINE, .seq its_FOOT_LINE nn_FOOT_LINE, sl_FOOT_LINE⟩) (gc_FOOT_LINE : its_FOOT_LINE.size ≤ 1000) (gd_FOOT_LINE : valsAre its_FOOT_LINE.toList [(.str ""), (.int 0), (.int 1)] = true)
    {u_MOST_FIGURES : Value} (ga_MOST_FIGURES : PySem.W.nsIn K mainGlobals "MOST_FIGURES" = some (some u_MOST_FIGURES)) (gd_MOST_FIGURES : valIs u_MOST_FIGURES (.int 6) = true)
    {u_FIGURES : Value} (ga_FIGURES : PySem.W.nsIn K mainGlobals "FIGURES" = some (some u_FIGURES)) (gd_FIGURES : valIs u_FIGURES (.str "0123456789") = true) :
    ∃ fd : FuncData, (∀ (s : Shared) (v : Value), BindsTo s fd ⟨[v], []⟩ [("_law_script", v)]) ∧ ∀ base : Heap, K.In base → base.Ns mainGlobals mg → FnOk l.prog w K mg base CX0 7 fa fd ["_law_script"] (spD K φ_law) := by
  have e := hfa.symm.trans (PySem.W.mg_of X G a23)
  cases e
  have g_MOST_LETTERS : GlD K mg "MOST_LETTERS" (.int 8) := gl_scal (PySem.W.mg_of X G ga_MOST_LETTERS) gd_MOST_LETTERS
  have g_LETTERS : GlD K mg "LETTERS" (.str "abcdefghijklmnopqrstuvwxyz") := gl_scal (PySem.W.mg_of X G ga_LETTERS) gd_LETTERS
  have g_RESERVED : GlD K mg "RESERVED" (.tuple [(.str "head"), (.str "foot"), (.str "none")]) := gl_tup (PySem.W.mg_of X G ga_RESERVED) gb_RESERVED gc_RESERVED gd_RESERVED
  have g_MOST_NUMBER : GlD K mg "MOST_NUMBER" (.int 999) := gl_scal (PySem.W.mg_of X G ga_MOST_NUMBER) gd_MOST_NUMBER
  have g_HEAD_LINE : GlD K mg "HEAD_LINE" (.tuple [(.str ""), (.int 0), (.int 0)]) := gl_tup (PySem.W.mg_of X G ga_HEAD_LINE) gb_HEAD_LINE gc_HEAD_LINE gd_HEAD_LINE
  have g_FOOT_LINE : GlD K mg "FOOT_LINE" (.tuple [(.str ""), (.int 0), (.int 1)]) := gl_tup (PySem.W.mg_of X G ga_FOOT_LINE) gb_FOOT_LINE gc_FOOT_LINE gd_FOOT_LINE
  have g_MOST_FIGURES : GlD K mg "MOST_FIGURES" (.int 6) := gl_scal (PySem.W.mg_of X G ga_MOST_FIGURES) gd_MOST_FIGURES
  have g_FIGURES : GlD K mg "FIGURES" (.str "0123456789") := gl_scal (PySem.W.mg_of X G ga_FIGURES) gd_FIGURES
  have n_isinstance := PySem.W.mg_none_of X G z_isinstance
  have n_int := PySem.W.mg_none_of X G z_int
  have n_bool := PySem.W.mg_none_of X G z_bool
  have n_str := PySem.W.mg_none_of X G z_str
  have n_len := PySem.W.mg_none_of X G z_len
  have n_all := PySem.W.mg_none_of X G z_all
  have n_tuple := PySem.W.mg_none_of X G z_tuple
  have n_range := PySem.W.mg_none_of X G z_range
  have n_list := PySem.W.mg_none_of X G z_list
  have n_enumerate := PySem.W.mg_none_of X G z_enumerate
  have n_sum := PySem.W.mg_none_of X G z_sum
  have F0 := fun_mk (st := s_is_whole) l0 c0 k0
  have D_is_whole : DfA K mg "is_whole" s_is_whole ["thing"] := ⟨⟨f0, _, F0, PySem.W.mg_of X G a0, F0.binds (ps := ["thing"]) fun _ _ _ _ _ _ us hl => match us, hl with | [_], _ => rfl⟩⟩
  have F1 := fun_mk (st := s_is_among) l1 c1 k1
  have D_is_among : DfA K mg "is_among" s_is_among ["thing", "least", "most"] := ⟨⟨f1, _, F1, PySem.W.mg_of X G a1, F1.binds (ps := ["thing", "least", "most"]) fun _ _ _ _ _ _ us hl => match us, hl with | [_, _, _], _ => rfl⟩⟩
  have F2 := fun_mk (st := s_is_word) l2 c2 k2
  have D_is_word : DfA K mg "is_word" s_is_word ["thing"] := ⟨⟨f2, _, F2, PySem.W.mg_of X G a2, F2.binds (ps := ["thing"]) fun _ _ _ _ _ _ us hl => match us, hl with | [_], _ => rfl⟩⟩
  have F3 := fun_mk (st := s_is_hand) l3 c3 k3
  have D_is_hand : DfA K mg "is_hand" s_is_hand ["thing"] := ⟨⟨f3, _, F3, PySem.W.mg_of X G a3, F3.binds (ps := ["thing"]) fun _ _ _ _ _ _ us hl => match us, hl with | [_], _ => rfl⟩⟩
  have F4 := fun_mk (st := s_is_name) l4 c4 k4
  have D_is_name : DfA K mg "is_name" s_is_name ["thing"] := ⟨⟨f4, _, F4, PySem.W.mg_of X G a4, F4.binds (ps := ["thing"]) fun _ _ _ _ _ _ us hl => match us, hl with | [_], _ => rfl⟩⟩
  have F5 := fun_mk (st := s_is_put_line) l5 c5 k5
  have D_is_put_line : DfA K mg "is_put_line" s_is_put_line ["thing"] := ⟨⟨f5, _, F5, PySem.W.mg_of X G a5, F5.binds (ps := ["thing"]) fun _ _ _ _ _ _ us hl => match us, hl with | [_], _ => rfl⟩⟩
  have F6 := fun_mk (st := s_is_end) l6 c6 k6
  have D_is_end : DfA K mg "is_end" s_is_end ["thing"] := ⟨⟨f6, _, F6, PySem.W.mg_of X G a6, F6.binds (ps := ["thing"]) fun _ _ _ _ _ _ us hl => match us, hl with | [_], _ => rfl⟩⟩
  have F7 := fun_mk (st := s_number_of) l7 c7 k7
  have D_number_of : DfA K mg "number_of" s_number_of ["word"] := ⟨⟨f7, _, F7, PySem.W.mg_of X G a7, F7.binds (ps := ["word"]) fun _ _ _ _ _ _ us hl => match us, hl with | [_], _ => rfl⟩⟩
  have F8 := fun_mk (st := s_name_text) l8 c8 k8
  have D_name_text : DfA K mg "name_text" s_name_text ["name"] := ⟨⟨f8, _, F8, PySem.W.mg_of X G a8, F8.binds (ps := ["name"]) fun _ _ _ _ _ _ us hl => match us, hl with | [_], _ => rfl⟩⟩
  have F9 := fun_mk (st := s_line_text) l9 c9 k9
  have D_line_text : DfA K mg "line_text" s_line_text ["line"] := ⟨⟨f9, _, F9, PySem.W.mg_of X G a9, F9.binds (ps := ["line"]) fun _ _ _ _ _ _ us hl => match us, hl with | [_], _ => rfl⟩⟩
  have F10 := fun_mk (st := s_name_of) l10 c10 k10
  have D_name_of : DfA K mg "name_of" s_name_of ["word"] := ⟨⟨f10, _, F10, PySem.W.mg_of X G a10, F10.binds (ps := ["word"]) fun _ _ _ _ _ _ us hl => match us, hl with | [_], _ => rfl⟩⟩
  have F11 := fun_mk (st := s_line_of) l11 c11 k11
  have D_line_of : DfA K mg "line_of" s_line_of ["word"] := ⟨⟨f11, _, F11, PySem.W.mg_of X G a11, F11.binds (ps := ["word"]) fun _ _ _ _ _ _ us hl => match us, hl with | [_], _ => rfl⟩⟩
  have F12 := fun_mk (st := s_words_of) l12 c12 k12
  have D_words_of : DfA K mg "words_of" s_words_of ["row"] := ⟨⟨f12, _, F12, PySem.W.mg_of X G a12, F12.binds (ps := ["row"]) fun _ _ _ _ _ _ us hl => match us, hl with | [_], _ => rfl⟩⟩
  have F13 := fun_mk (st := s__law_mixed) l13 c13 k13
  have D__law_mixed : DfA K mg "_law_mixed" s__law_mixed ["_law_cell", "_law_k"] := ⟨⟨f13, _, F13, PySem.W.mg_of X G a13, F13.binds (ps := ["_law_cell", "_law_k"]) fun _ _ _ _ _ _ us hl => match us, hl with | [_, _], _ => rfl⟩⟩
  have F14 := fun_mk (st := s__law_draw) l14 c14 k14
  have D__law_draw : DfA K mg "_law_draw" s__law_draw ["_law_cell", "_law_k"] := ⟨⟨f14, _, F14, PySem.W.mg_of X G a14, F14.binds (ps := ["_law_cell", "_law_k"]) fun _ _ _ _ _ _ us hl => match us, hl with | [_, _], _ => rfl⟩⟩
  have F15 := fun_mk (st := s__law_digit) l15 c15 k15
  have D__law_digit : DfA K mg "_law_digit" s__law_digit ["_law_state", "_law_many"] := ⟨⟨f15, _, F15, PySem.W.mg_of X G a15, F15.binds (ps := ["_law_state", "_law_many"]) fun _ _ _ _ _ _ us hl => match us, hl with | [_, _], _ => rfl⟩⟩
  have F16 := fun_mk (st := s__law_word) l16 c16 k16
  have D__law_word : DfA K mg "_law_word" s__law_word ["_law_state", "_law_signs"] := ⟨⟨f16, _, F16, PySem.W.mg_of X G a16, F16.binds (ps := ["_law_state", "_law_signs"]) fun _ _ _ _ _ _ us hl => match us, hl with | [_, _], _ => rfl⟩⟩
  have F17 := fun_mk (st := s__law_is_word) l17 c17 k17
  have D__law_is_word : DfA K mg "_law_is_word" s__law_is_word ["_law_word_here"] := ⟨⟨f17, _, F17, PySem.W.mg_of X G a17, F17.binds (ps := ["_law_word_here"]) fun _ _ _ _ _ _ us hl => match us, hl with | [_], _ => rfl⟩⟩
  have F18 := fun_mk (st := s__law_number) l18 c18 k18
  have D__law_number : DfA K mg "_law_number" s__law_number ["_law_word_here"] := ⟨⟨f18, _, F18, PySem.W.mg_of X G a18, F18.binds (ps := ["_law_word_here"]) fun _ _ _ _ _ _ us hl => match us, hl with | [_], _ => rfl⟩⟩
  have F19 := fun_mk (st := s__law_parts) l19 c19 k19
  have D__law_parts : DfA K mg "_law_parts" s__law_parts ["_law_word_here", "_law_many"] := ⟨⟨f19, _, F19, PySem.W.mg_of X G a19, F19.binds (ps := ["_law_word_here", "_law_many"]) fun _ _ _ _ _ _ us hl => match us, hl with | [_, _], _ => rfl⟩⟩
  have F20 := fun_mk (st := s__law_one) l20 c20 k20
  have D__law_one : DfA K mg "_law_one" s__law_one ["_law_word_here"] := ⟨⟨f20, _, F20, PySem.W.mg_of X G a20, F20.binds (ps := ["_law_word_here"]) fun _ _ _ _ _ _ us hl => match us, hl with | [_], _ => rfl⟩⟩
  have F21 := fun_mk (st := s__law_things) l21 c21 k21
  have D__law_things : DfA K mg "_law_things" s__law_things ["_law_state"] := ⟨⟨f21, _, F21, PySem.W.mg_of X G a21, F21.binds (ps := ["_law_state"]) fun _ _ _ _ _ _ us hl => match us, hl with | [_], _ => rfl⟩⟩
  have F22 := fun_mk (st := s__law_row) l22 c22 k22
  have D__law_row : DfA K mg "_law_row" s__law_row ["_law_words", "_law_number_here"] := ⟨⟨f22, _, F22, PySem.W.mg_of X G a22, F22.binds (ps := ["_law_words", "_law_number_here"]) fun _ _ _ _ _ _ us hl => match us, hl with | [_, _], _ => rfl⟩⟩
  have F23 := fun_mk (st := s_law) l23 c23 k23
  refine ⟨PySem.W.fnOf "law" "law" (defArgs s_law) (defBody s_law) (defScope s_law) .none kV23 dc23 pm23 an23 cd23 ct23, fun s v => .of_eq rfl, fun base _ _ => ?_⟩
  have C_is_whole : Cal l.prog w K mg base 1 "is_whole" φ_is_whole := ok_is_whole D_is_whole n_isinstance n_int n_bool  
  have C_is_among : Cal l.prog w K mg base 2 "is_among" φ_is_among := ok_is_among D_is_among   C_is_whole
  have C_is_word : Cal l.prog w K mg base 1 "is_word" φ_is_word := ok_is_word D_is_word n_isinstance n_str n_len n_all g_MOST_LETTERS g_LETTERS 
  have C_is_hand : Cal l.prog w K mg base 2 "is_hand" φ_is_hand := ok_is_hand D_is_hand  g_RESERVED C_is_word
  have C_is_name : Cal l.prog w K mg base 3 "is_name" φ_is_name := ok_is_name D_is_name n_isinstance n_tuple n_len g_MOST_NUMBER C_is_hand C_is_among
  have C_is_put_line : Cal l.prog w K mg base 4 "is_put_line" φ_is_put_line := ok_is_put_line D_is_put_line n_isinstance n_tuple n_len  C_is_name C_is_whole
  have C_is_end : Cal l.prog w K mg base 2 "is_end" φ_is_end := ok_is_end D_is_end n_isinstance n_tuple n_len n_all g_HEAD_LINE g_FOOT_LINE C_is_whole
  have C_number_of : Cal l.prog w K mg base 1 "number_of" φ_number_of := ok_number_of D_number_of n_isinstance n_str n_len n_all n_int g_MOST_FIGURES g_FIGURES 
  have C_name_text : Cal l.prog w K mg base 1 "name_text" φ_name_text := ok_name_text D_name_text n_str  
  have C_line_text : Cal l.prog w K mg base 1 "line_text" φ_line_text := ok_line_text D_line_text n_str g_HEAD_LINE g_FOOT_LINE 
  have C_name_of : Cal l.prog w K mg base 4 "name_of" φ_name_of := ok_name_of D_name_of n_isinstance n_str n_len  C_number_of C_is_name
  have C_line_of : Cal l.prog w K mg base 5 "line_of" φ_line_of := ok_line_of D_line_of n_isinstance n_str n_len g_HEAD_LINE g_FOOT_LINE C_number_of C_is_put_line
  have C_words_of : Cal l.prog w K mg base 1 "words_of" φ_words_of := ok_words_of D_words_of n_isinstance n_str  
  have C__law_mixed : Cal l.prog w K mg base 1 "_law_mixed" φ__law_mixed := ok__law_mixed D__law_mixed   
  have C__law_draw : Cal l.prog w K mg base 2 "_law_draw" φ__law_draw := ok__law_draw D__law_draw   C__law_mixed
  have C__law_digit : Cal l.prog w K mg base 1 "_law_digit" φ__law_digit := ok__law_digit D__law_digit   
  have C__law_word : Cal l.prog w K mg base 2 "_law_word" φ__law_word := ok__law_word D__law_word n_range n_len  C__law_digit
  have C__law_is_word : Cal l.prog w K mg base 1 "_law_is_word" φ__law_is_word := ok__law_is_word D__law_is_word n_len  
  have C__law_number : Cal l.prog w K mg base 1 "_law_number" φ__law_number := ok__law_number D__law_number n_len  
  have C__law_parts : Cal l.prog w K mg base 2 "_law_parts" φ__law_parts := ok__law_parts D__law_parts n_len n_tuple  C__law_is_word C__law_number
  have C__law_one : Cal l.prog w K mg base 6 "_law_one" φ__law_one := ok__law_one D__law_one   C__law_parts C_number_of C__law_number C_name_of C_line_of C_line_text C_name_text C__law_is_word C_is_word C_is_hand
  have C__law_things : Cal l.prog w K mg base 5 "_law_things" φ__law_things := ok__law_things D__law_things n_list n_isinstance n_bool  C__law_digit C_is_name C_is_put_line C_is_end
  have C__law_row : Cal l.prog w K mg base 2 "_law_row" φ__law_row := ok__law_row D__law_row n_range n_isinstance n_list n_len  C_words_of
  exact ok_law F23 n_enumerate n_sum n_str  C__law_draw C__law_things C__law_word C__law_digit C__law_one C_line_of C_name_of C_words_of C_number_of C_is_word C_is_hand C_is_name C_is_put_line C_is_end C_is_whole C_is_among C__law_row C__law_mixed
theorem walk {l : PySem.W.OpenLaw} {q : Program} {loose : List Str} {XP : (Str → Option Value) → Heap → Prop} {YP : World → Heap → Prop} {d : DefRec} {K : Params → PySem.W.Frag} (hn : l.most = some 63) (hdf : d.params.defaults = [])
    (hY : ∀ (w : World) (h : Heap), YP w h → (K w.params).In h)
    (F : ∀ (w : World) (mg : Str → Option Value) (fa : Addr) (h : Heap), (K w.params).In h → h.Ns mainGlobals mg → mg d.name = some (.ref fa) →
      ∃ fd : FuncData, (∀ (s : Shared) (u : Value), BindsTo s fd ⟨[u], []⟩ [("_law_script", u)]) ∧ ∀ base : Heap, (K w.params).In base → base.Ns mainGlobals mg → FnOk l.prog w (K w.params) mg base CX0 7 fa fd ["_law_script"] (spD (K w.params) φ_law)) :
    PySem.W.WalkO q loose XP YP l.row.toRowW d [] (fun f vs => PySem.call f vs) :=
  L2.walk_of (n := 63) (k := 7) (x := "_law_script") (CX := fun _ => CX0) (sp := fun w => spD (K w.params) φ_law) hn (by decide) hdf ⟨rfl, by decide, by decide⟩ hY F (fun w H a ns hl _ hS => sp_start hS ⟨ns, rfl, hl, fun _ => rfl⟩) fun _ _ _ _ _ z => z
end K01
open PySem PySem.W PyProof.Rows
set_option maxRecDepth 100000 in
set_option maxHeartbeats 0 in
theorem PySem.Challenge.cw_manyheads_k01_names_holds : PySem.Challenge.rw_manyheads_k01_names.Holds := by
  w_on; o_law; k_head; (case hw => w_witness2)
  k_fill
  refine K01.walk (l := PySem.Challenge.rw_manyheads_k01_names) rfl rfl (fun w h Y => PySem.W.kIn_of Y) ?F
  case F =>
    intro w mg fa h KX G hmg
    refine' K01.all_mk KX G hmg ?a0 ?l0 ?c0 ?k0 ?a1 ?l1 ?c1 ?k1 ?a2 ?l2 ?c2 ?k2 ?a3 ?l3 ?c3 ?k3 ?a4 ?l4 ?c4 ?k4 ?a5 ?l5 ?c5 ?k5 ?a6 ?l6 ?c6 ?k6 ?a7 ?l7 ?c7 ?k7 ?a8 ?l8 ?c8 ?k8 ?a9 ?l9 ?c9 ?k9 ?a10 ?l10 ?c10 ?k10 ?a11 ?l11 ?c11 ?k11 ?a12 ?l12 ?c12 ?k12 ?a13 ?l13 ?c13 ?k13 ?a14 ?l14 ?c14 ?k14 ?a15 ?l15 ?c15 ?k15 ?a16 ?l16 ?c16 ?k16 ?a17 ?l17 ?c17 ?k17 ?a18 ?l18 ?c18 ?k18 ?a19 ?l19 ?c19 ?k19 ?a20 ?l20 ?c20 ?k20 ?a21 ?l21 ?c21 ?k21 ?a22 ?l22 ?c22 ?k22 ?a23 ?l23 ?c23 ?k23 ?z_isinstance ?z_int ?z_bool ?z_str ?z_len ?z_all ?z_tuple ?z_range ?z_list ?z_enumerate ?z_sum ?ga_MOST_LETTERS ?gd_MOST_LETTERS ?ga_LETTERS ?gd_LETTERS ?ga_RESERVED ?gb_RESERVED ?gc_RESERVED ?gd_RESERVED ?ga_MOST_NUMBER ?gd_MOST_NUMBER ?ga_HEAD_LINE ?gb_HEAD_LINE ?gc_HEAD_LINE ?gd_HEAD_LINE ?ga_FOOT_LINE ?gb_FOOT_LINE ?gc_FOOT_LINE ?gd_FOOT_LINE ?ga_MOST_FIGURES ?gd_MOST_FIGURES ?ga_FIGURES ?gd_FIGURES
    (case a0 => k_is); (case l0 => k_is); (case c0 => k_is); (case k0 => k_is); (case a1 => k_is); (case l1 => k_is)
    (case c1 => k_is); (case k1 => k_is); (case a2 => k_is); (case l2 => k_is); (case c2 => k_is); (case k2 => k_is)
    (case a3 => k_is); (case l3 => k_is); (case c3 => k_is); (case k3 => k_is); (case a4 => k_is); (case l4 => k_is)
    (case c4 => k_is); (case k4 => k_is); (case a5 => k_is); (case l5 => k_is); (case c5 => k_is); (case k5 => k_is)
    (case a6 => k_is); (case l6 => k_is); (case c6 => k_is); (case k6 => k_is); (case a7 => k_is); (case l7 => k_is)
    (case c7 => k_is); (case k7 => k_is); (case a8 => k_is); (case l8 => k_is); (case c8 => k_is); (case k8 => k_is)
    (case a9 => k_is); (case l9 => k_is); (case c9 => k_is); (case k9 => k_is); (case a10 => k_is); (case l10 => k_is)
    (case c10 => k_is); (case k10 => k_is); (case a11 => k_is); (case l11 => k_is); (case c11 => k_is); (case k11 => k_is)
    (case a12 => k_is); (case l12 => k_is); (case c12 => k_is); (case k12 => k_is); (case a13 => k_is); (case l13 => k_is)
    (case c13 => k_is); (case k13 => k_is); (case a14 => k_is); (case l14 => k_is); (case c14 => k_is); (case k14 => k_is)
    (case a15 => k_is); (case l15 => k_is); (case c15 => k_is); (case k15 => k_is); (case a16 => k_is); (case l16 => k_is)
    (case c16 => k_is); (case k16 => k_is); (case a17 => k_is); (case l17 => k_is); (case c17 => k_is); (case k17 => k_is)
    (case a18 => k_is); (case l18 => k_is); (case c18 => k_is); (case k18 => k_is); (case a19 => k_is); (case l19 => k_is)
    (case c19 => k_is); (case k19 => k_is); (case a20 => k_is); (case l20 => k_is); (case c20 => k_is); (case k20 => k_is)
    (case a21 => k_is); (case l21 => k_is); (case c21 => k_is); (case k21 => k_is); (case a22 => k_is); (case l22 => k_is)
    (case c22 => k_is); (case k22 => k_is); (case a23 => k_is); (case l23 => k_is); (case c23 => k_is); (case k23 => k_is)
    (case z_isinstance => k_is); (case z_int => k_is); (case z_bool => k_is); (case z_str => k_is); (case z_len => k_is); (case z_all => k_is)
    (case z_tuple => k_is); (case z_range => k_is); (case z_list => k_is); (case z_enumerate => k_is); (case z_sum => k_is); (case ga_MOST_LETTERS => k_is)
    (case gd_MOST_LETTERS => decide +kernel); (case ga_LETTERS => k_is); (case gd_LETTERS => decide +kernel); (case ga_RESERVED => k_is); (case gb_RESERVED => k_is); (case gc_RESERVED => decide)
    (case gd_RESERVED => decide +kernel); (case ga_MOST_NUMBER => k_is); (case gd_MOST_NUMBER => decide +kernel); (case ga_HEAD_LINE => k_is); (case gb_HEAD_LINE => k_is); (case gc_HEAD_LINE => decide)
    (case gd_HEAD_LINE => decide +kernel); (case ga_FOOT_LINE => k_is); (case gb_FOOT_LINE => k_is); (case gc_FOOT_LINE => decide); (case gd_FOOT_LINE => decide +kernel); (case ga_MOST_FIGURES => k_is)
    (case gd_MOST_FIGURES => decide +kernel); (case ga_FIGURES => k_is); (case gd_FIGURES => decide +kernel)
#print axioms PySem.Challenge.cw_manyheads_k01_names_holds
