import PyProof.Rows.All
import Wide.All
import OpenK.AllK
import Wide.FinOn
import HandS.ForMost
import HandS.ForExc
import HandS.Lambda
import HandS.TupAny
import HandS.TupLe
import HandS.Style
import HandS.Conv
import HandS.SortInts
import HandS.EndTab
import KE.KNestM
import HandS.GenList
import PyProof.GenComp
import PyProof.CollectIter
import PyProof.TupleCall
import HandS.TupSets
import HandS.DictComp
import PyProof.Rows.SeqGen
import PyProof.ConsumeS
import HandS.SortRule
import KE.DataMinMax
import HandS.SortKw
import HandS.Zip
import KE.GoesMore
import KE.KLam
import PySem.Challenge.RW_clockstack_k04_stretches_of_time
set_option Elab.async false
set_option linter.all false
set_option maxRecDepth 100000
set_option maxHeartbeats 16000000
/-! The data layer: what a def computes, as a plain Lean function over data (D) and a store of things that change (SO); the judgements PD, PTD, .. say that a piece of the program does so. -/
namespace G
open PySem L2

/-! ### data -/
/-- a key of a dict -/
inductive HK where | k (x : Key) | t (xs : List Key) deriving DecidableEq
inductive D where
  | non | bl (b : Bool) | int (i : Int) | str (x : Str)
  /-- a tuple; a list, a dict that nobody changes -/
  | tup (xs : List D) | lst (xs : List D) | dic (ks : List HK) (vs : List D)
  /-- a thing of the store -/
  | ref (n : Nat)
  /-- what a name of the module holds (a def, a class) -/
  | fn (x : Str)
  | lam (n : Nat)
  /-- the script -/
  | scr (ns : List Int)
/-- what may change -/
inductive SO where
  | lst (xs : List D) | dic (ks : List HK) (vs : List D) | ins (C : Str) (fs : List (Str × D))
abbrev Store := List SO
inductive R (α : Type) where
  | ok (a : α) (st : Store) | ex (c : Str) (st : Store) | bad
abbrev Env := List (Option D)
abbrev DE := Env → Store → R D
abbrev DT := Env → Store → R Bool
abbrev DA := Env → Store → R (List D)
def R.bind {α β : Type} (r : R α) (k : α → Store → R β) : R β := match r with
  | .ok a st => k a st
  | .ex c st => .ex c st
  | .bad => .bad
@[simp] theorem R.bind_ok {α β : Type} (a : α) (st : Store) (k : α → Store → R β) : (R.ok a st).bind k = k a st := rfl
@[simp] theorem R.bind_ex {α β : Type} (c : Str) (st : Store) (k : α → Store → R β) : (R.ex c st : R α).bind k = .ex c st := rfl
@[simp] theorem R.bind_bad {α β : Type} (k : α → Store → R β) : (R.bad : R α).bind k = .bad := rfl

/-! ### how data lie in the heap -/
/-- a lambda of the text that captures nothing -/
structure LamI where
  qual : Str
  params : Arguments
  body : Expr
  scope : Scope
structure GC where
  K : PySem.W.Frag
  ga : Str → Addr
  T : List (Addr × Str)
  lam : Nat → Option LamI
  /-- a def's code object and its table -/
  cp : Str → Addr × Addr
/-- the lambda stands at f, its code object at c -/
def LamO (f c : Addr) (l : LamI) (pm ctv : Value) : HO := .ext fun h => h.get? f = some (PySem.W.kla_obj "<lambda>" l.qual l.params l.body l.scope [] pm c ctv)
/-- where the things of the store lie, and lists that are being made (nobody knows of them) -/
structure Mp where
  m : List Addr
  h : List Addr
def Mp.out (μ : Mp) (a : Addr) : Prop := a ∉ μ.m ∧ a ∉ μ.h
/-- a list, a tuple of the written part -/
def KL (K : PySem.W.Frag) (a : Addr) (xs : List V) : Prop := ∃ (o : Obj) (its : Array Value) (n : Nat), K.lookup a = some o ∧ o.cls = .type "list" ∧ o.dict = none ∧ o.data = .seq its n ∧ its.size ≤ sizeLine ∧ Vals xs its.toList
def KT (K : PySem.W.Frag) (a : Addr) (xs : List V) : Prop := ∃ (o : Obj) (its : Array Value) (n : Nat), K.lookup a = some o ∧ o.cls = .type "tuple" ∧ o.data = .seq its n ∧ its.size ≤ sizeLine ∧ Vals xs its.toList
/-- how a dict with these keys stands -/
def keysK : List HK → Option (List Key)
  | [] => some []
  | .k x :: r => (keysK r).map (x :: ·)
  | .t _ :: _ => none
def keysT : List HK → Option (List (List Key))
  | [] => some []
  | .t x :: r => (keysT r).map (x :: ·)
  | .k _ :: _ => none
def DicO (ks : List HK) (vs : List V) (o : HO) : Prop :=
  (∃ kk, keysK ks = some kk ∧ o = .dK (kk.zip vs)) ∨ (∃ kk, keysT ks = some kk ∧ kk ≠ [] ∧ o = .dT (kk.zip vs))
section
variable (g : GC) (μ : Mp) (H : Hp)
mutual
def Rep : D → V → Prop
  | .non, v => v = .non
  | .bl b, v => v = .bl b
  | .int i, v => v = .int i
  | .str x, v => v = .str x
  | .tup ds, v => ∃ a vs, v = .ref a ∧ ((μ.out a ∧ Rd H a (.tup vs)) ∨ KT g.K a vs) ∧ Reps ds vs
  | .lst ds, v => ∃ a vs, v = .ref a ∧ (μ.out a ∧ H a = some (.lst vs)) ∧ Reps ds vs
  | .dic ks ds, v => ∃ a vs o, v = .ref a ∧ μ.out a ∧ Rd H a o ∧ DicO ks vs o ∧ ks.length = vs.length ∧ Reps ds vs
  | .ref n, v => ∃ a, v = .ref a ∧ μ.m[n]? = some a
  | .fn x, v => v = .ref (g.ga x)
  | .lam n, v => ∃ f c l pm ctv, v = .ref f ∧ g.lam n = some l ∧ (μ.out f ∧ Rd H f (LamO f c l pm ctv)) ∧ μ.out c ∧ Rd H c (LamX.CodeO c l.qual)
  | .scr ns, v => ∃ a, v = .ref a ∧ ((μ.out a ∧ Rd H a (.lst (ns.map V.int))) ∨ KL g.K a (ns.map V.int))
def Reps : List D → List V → Prop
  | [], vs => vs = []
  | d :: ds, vs => ∃ v vr, vs = v :: vr ∧ Rep d v ∧ Reps ds vr
end
/-- fields -/
def RepF : List (Str × D) → List (Str × V) → Prop
  | [], vs => vs = []
  | (f, d) :: ds, vs => ∃ v vr, vs = (f, v) :: vr ∧ Rep g μ H d v ∧ RepF ds vr
def RepO (a : Addr) : SO → Prop
  | .lst ds => ∃ vs, H a = some (.lst vs) ∧ Reps g μ H ds vs
  | .dic ks ds => ∃ vs o, H a = some o ∧ DicO ks vs o ∧ ks.length = vs.length ∧ Reps g μ H ds vs
  | .ins C fs => ∃ dx gs, H a = some (.ins (g.ga C) dx gs) ∧ RepF g μ H fs gs
/-- what is being made: a list, a dict -/
inductive HidV where | l (vs : List V) | k (kvs : List (Key × V))
def HidV.ho : HidV → HO
  | .l vs => .lst vs
  | .k kvs => .dK kvs
/-- the store -/
structure RelS (st : Store) : Prop where
  len : μ.m.length = st.length
  nd : μ.m.Nodup
  hid : ∀ a ∈ μ.h, a ∉ μ.m ∧ ∃ vs : HidV, H a = some vs.ho
  at_ : ∀ (n : Nat) a o, μ.m[n]? = some a → st[n]? = some o → RepO g μ H a o
  tabs : LamX.Tabs g.T H
/-- the names -/
structure RelE (env : Env) (σ : L2.St) : Prop where
  len : env.length = σ.length
  at_ : ∀ (i : Nat) d, env[i]? = some (some d) → ∃ v, σ[i]? = some (some v) ∧ Rep g μ H d v
end
/-- later: what is known is known on -/
structure Lw (μ : Mp) (H : Hp) (μ' : Mp) (H' : Hp) : Prop where
  pre : ∀ (n : Nat) a, μ.m[n]? = some a → μ'.m[n]? = some a
  keep : ∀ a u, μ.out a → Rd H a u → (∀ ps, u ≠ .tbl ps) → μ'.out a ∧ Rd H' a u
  keepL : ∀ a vs, μ.out a → H a = some (.lst vs) → H' a = some (.lst vs)
/-- .. and the lists that are being made stand -/
structure Le (μ : Mp) (H : Hp) (μ' : Mp) (H' : Hp) : Prop extends Lw μ H μ' H' where
  hh : μ'.h = μ.h
  hk : ∀ a ∈ μ.h, H' a = H a
section
variable {g : GC} {μ μ' μ'' : Mp} {H H' H'' : Hp}
theorem Lw.refl : Lw μ H μ H := ⟨fun _ _ h => h, fun _ _ h1 h2 _ => ⟨h1, h2⟩, fun _ _ _ h => h⟩
theorem Lw.trans (a : Lw μ H μ' H') (b : Lw μ' H' μ'' H'') : Lw μ H μ'' H'' := ⟨fun n x h => b.pre n x (a.pre n x h), fun x u h1 h2 h3 =>
  let ⟨h4, h5⟩ := a.keep x u h1 h2 h3
  b.keep x u h4 h5 h3, fun x vs h1 h2 => b.keepL x vs (a.keep x _ h1 (.inl h2) (by intro _ z; cases z)).1 (a.keepL x vs h1 h2)⟩
theorem Le.refl : Le μ H μ H := ⟨Lw.refl, rfl, fun _ _ => rfl⟩
theorem Le.trans (a : Le μ H μ' H') (b : Le μ' H' μ'' H'') : Le μ H μ'' H'' := ⟨a.toLw.trans b.toLw, b.hh.trans a.hh, fun x hx => (b.hk x (by rw [a.hh]; exact hx)).trans (a.hk x hx)⟩
theorem DicO.noTbl {ks : List HK} {vs : List V} {o : HO} (h : DicO ks vs o) : ∀ ps, o ≠ .tbl ps := fun ps e => by
  rcases h with ⟨_, _, h⟩ | ⟨_, _, _, h⟩ <;> (rw [h] at e; cases e)
mutual
theorem Rep.lw (L : Lw μ H μ' H') : ∀ {d : D} {v : V}, Rep g μ H d v → Rep g μ' H' d v
  | .non, _, h => h
  | .bl _, _, h => h
  | .int _, _, h => h
  | .str _, _, h => h
  | .tup ds, v, h => by
    obtain ⟨a, vs, e, h1, h2⟩ := h
    refine ⟨a, vs, e, ?_, Reps.lw L h2⟩
    rcases h1 with ⟨n, r⟩ | k
    · exact .inl (L.keep _ _ n r (by intro _ z; cases z))
    · exact .inr k
  | .lst ds, v, h => by
    obtain ⟨a, vs, e, ⟨n, r⟩, h2⟩ := h
    exact ⟨a, vs, e, ⟨(L.keep _ _ n (.inl r) (by intro _ z; cases z)).1, L.keepL _ _ n r⟩, Reps.lw L h2⟩
  | .dic ks ds, v, h => by
    obtain ⟨a, vs, o, e, n, r, h1, h3, h2⟩ := h
    obtain ⟨n', r'⟩ := L.keep _ _ n r h1.noTbl
    exact ⟨a, vs, o, e, n', r', h1, h3, Reps.lw L h2⟩
  | .ref n, v, h => by
    obtain ⟨a, e, h⟩ := h
    exact ⟨a, e, L.pre n a h⟩
  | .fn _, _, h => h
  | .lam n, v, h => by
    obtain ⟨f, c, l, pm, ctv, e, e1, ⟨n1, h1⟩, n2, h2⟩ := h
    exact ⟨f, c, l, pm, ctv, e, e1, L.keep _ _ n1 h1 (by intro _ z; unfold LamO at z; cases z), L.keep _ _ n2 h2 (by intro _ z; unfold LamX.CodeO at z; cases z)⟩
  | .scr ns, v, h => by
    obtain ⟨a, e, h1⟩ := h
    refine ⟨a, e, ?_⟩
    rcases h1 with ⟨n, r⟩ | k
    · exact .inl (L.keep _ _ n r (by intro _ z; cases z))
    · exact .inr k
theorem Reps.lw (L : Lw μ H μ' H') : ∀ {ds : List D} {vs : List V}, Reps g μ H ds vs → Reps g μ' H' ds vs
  | [], _, h => h
  | d :: ds, vs, h => by
    obtain ⟨v, vr, e, h1, h2⟩ := h
    exact ⟨v, vr, e, Rep.lw L h1, Reps.lw L h2⟩
end
theorem Rep.le (L : Le μ H μ' H') {d : D} {v : V} (h : Rep g μ H d v) : Rep g μ' H' d v := h.lw L.toLw
theorem Reps.le (L : Le μ H μ' H') {ds : List D} {vs : List V} (h : Reps g μ H ds vs) : Reps g μ' H' ds vs := h.lw L.toLw
theorem RepF.lw (L : Lw μ H μ' H') : ∀ {ds : List (Str × D)} {vs : List (Str × V)}, RepF g μ H ds vs → RepF g μ' H' ds vs
  | [], _, h => h
  | (f, d) :: ds, vs, h => by
    obtain ⟨v, vr, e, h1, h2⟩ := h
    exact ⟨v, vr, e, Rep.lw L h1, RepF.lw L h2⟩
theorem RelE.lw (L : Lw μ H μ' H') {env : Env} {σ : L2.St} (h : RelE g μ H env σ) : RelE g μ' H' env σ := ⟨h.len, fun i d e => let ⟨v, h1, h2⟩ := h.at_ i d e; ⟨v, h1, h2.lw L⟩⟩
theorem RelE.le (L : Le μ H μ' H') {env : Env} {σ : L2.St} (h : RelE g μ H env σ) : RelE g μ' H' env σ := h.lw L.toLw
theorem RelE.set {env : Env} {σ : L2.St} (h : RelE g μ H env σ) (i : Nat) {d : D} {v : V} (r : Rep g μ H d v) : RelE g μ H (env.set i (some d)) (σ.set i (some v)) := by
  refine ⟨by simp [h.len], fun j e hj => ?_⟩
  by_cases hij : i = j
  · subst hij
    by_cases hl : i < env.length
    · rw [List.getElem?_set_self hl] at hj
      cases hj
      exact ⟨v, List.getElem?_set_self (by rw [← h.len]; exact hl), r⟩
    · rw [List.getElem?_eq_none (by simpa using hl)] at hj; cases hj
  · rw [List.getElem?_set_ne hij] at hj
    obtain ⟨w, h1, h2⟩ := h.at_ j e hj
    exact ⟨w, by rw [List.getElem?_set_ne hij]; exact h1, h2⟩
theorem Reps.len {μ : Mp} {H : Hp} : ∀ {ds : List D} {vs : List V}, Reps g μ H ds vs → ds.length = vs.length
  | [], _, h => by rw [show _ = [] from h] <;> rfl
  | d :: ds, vs, h => by
    obtain ⟨v, vr, e, _, h2⟩ := h
    rw [e, List.length_cons, List.length_cons, h2.len]
theorem Reps.get {μ : Mp} {H : Hp} : ∀ {ds : List D} {vs : List V} {i : Nat} {d : D}, Reps g μ H ds vs → ds[i]? = some d → ∃ v, vs[i]? = some v ∧ Rep g μ H d v
  | [], _, _, _, _, e => by simp at e
  | d :: ds, vs, 0, x, h, e => by
    obtain ⟨v, vr, e1, h1, _⟩ := h
    simp at e
    subst e e1
    exact ⟨v, rfl, h1⟩
  | d :: ds, vs, i + 1, x, h, e => by
    obtain ⟨v, vr, e1, _, h2⟩ := h
    obtain ⟨w, h3, h4⟩ := h2.get (i := i) (by simpa using e)
    subst e1
    exact ⟨w, by simpa using h3, h4⟩
theorem Reps.append {μ : Mp} {H : Hp} : ∀ {ds es : List D} {vs ws : List V}, Reps g μ H ds vs → Reps g μ H es ws → Reps g μ H (ds ++ es) (vs ++ ws)
  | [], _, _, _, h, q => by rw [show _ = [] from h]; exact q
  | d :: ds, _, _, _, h, q => by
    obtain ⟨v, vr, e1, h1, h2⟩ := h
    subst e1
    exact ⟨v, _, rfl, h1, h2.append q⟩
theorem Reps.get' {μ : Mp} {H : Hp} : ∀ {ds : List D} {vs : List V} {i : Nat} {v : V}, Reps g μ H ds vs → vs[i]? = some v → ∃ d, ds[i]? = some d ∧ Rep g μ H d v
  | [], _, _, _, h, e => by rw [show _ = [] from h] at e; simp at e
  | d :: ds, vs, 0, x, h, e => by
    obtain ⟨v, vr, e1, h1, _⟩ := h
    subst e1
    simp at e
    subst e
    exact ⟨d, rfl, h1⟩
  | d :: ds, vs, i + 1, x, h, e => by
    obtain ⟨v, vr, e1, _, h2⟩ := h
    subst e1
    obtain ⟨w, h3, h4⟩ := h2.get' (i := i) (by simpa using e)
    exact ⟨w, by simpa using h3, h4⟩
theorem Reps.take {μ : Mp} {H : Hp} : ∀ (n : Nat) {ds : List D} {vs : List V}, Reps g μ H ds vs → Reps g μ H (ds.take n) (vs.take n)
  | 0, _, _, _ => rfl
  | _ + 1, [], _, h => by rw [show _ = [] from h]; rfl
  | n + 1, d :: ds, _, h => by
    obtain ⟨v, vr, e1, h1, h2⟩ := h
    subst e1
    exact ⟨v, _, rfl, h1, h2.take n⟩
theorem Reps.drop {μ : Mp} {H : Hp} : ∀ (n : Nat) {ds : List D} {vs : List V}, Reps g μ H ds vs → Reps g μ H (ds.drop n) (vs.drop n)
  | 0, _, _, h => h
  | _ + 1, [], _, h => by rw [show _ = [] from h]; rfl
  | n + 1, d :: ds, _, h => by
    obtain ⟨v, vr, e1, h1, h2⟩ := h
    subst e1
    exact h2.drop n
theorem Reps.set {μ : Mp} {H : Hp} {d : D} {v : V} (r : Rep g μ H d v) : ∀ (n : Nat) {ds : List D} {vs : List V}, Reps g μ H ds vs → Reps g μ H (ds.set n d) (vs.set n v)
  | _, [], _, h => by rw [show _ = [] from h]; rfl
  | 0, e :: ds, _, h => by
    obtain ⟨w, vr, e1, h1, h2⟩ := h
    subst e1
    exact ⟨v, vr, rfl, r, h2⟩
  | n + 1, e :: ds, _, h => by
    obtain ⟨w, vr, e1, h1, h2⟩ := h
    subst e1
    exact ⟨w, _, rfl, h1, Reps.set r n h2⟩
theorem Reps.rev {μ : Mp} {H : Hp} : ∀ {ds : List D} {vs : List V}, Reps g μ H ds vs → Reps g μ H ds.reverse vs.reverse
  | [], _, h => by rw [show _ = [] from h]; rfl
  | d :: ds, _, h => by
    obtain ⟨v, vr, e1, h1, h2⟩ := h
    subst e1
    rw [List.reverse_cons, List.reverse_cons]
    exact h2.rev.append ⟨v, [], rfl, h1, rfl⟩
end
end G

namespace G
open PySem L2
section
variable {g : GC} {μ μ' : Mp} {H H' : Hp} {st : Store} {p a : Addr} {o : HO}
theorem RepO.there {so : SO} (h : RepO g μ H a so) : ∃ u, H a = some u ∧ Mut (some u) := by
  cases so with
  | lst ds => obtain ⟨vs, e, _⟩ := h; exact ⟨_, e, trivial⟩
  | dic ks ds =>
    obtain ⟨vs, o, e, d, _⟩ := h
    rcases d with ⟨_, _, d⟩ | ⟨_, _, _, d⟩ <;> exact ⟨_, e, by rw [d]; trivial⟩
  | ins C fs => obtain ⟨dx, gs, e, _⟩ := h; exact ⟨_, e, trivial⟩
theorem RepO.move (L : Lw μ H μ' H') (e : H' a = H a) {so : SO} (h : RepO g μ H a so) : RepO g μ' H' a so := by
  cases so with
  | lst ds => obtain ⟨vs, q, r⟩ := h; exact ⟨vs, e.trans q, r.lw L⟩
  | dic ks ds => obtain ⟨vs, o, q, d, l, r⟩ := h; exact ⟨vs, o, e.trans q, d, l, r.lw L⟩
  | ins C fs => obtain ⟨dx, gs, q, r⟩ := h; exact ⟨dx, gs, e.trans q, r.lw L⟩
theorem RelS.mem (S : RelS g μ H st) (h : a ∈ μ.m) : ∃ u, H a = some u ∧ Mut (some u) := by
  obtain ⟨n, hn⟩ := List.mem_iff_getElem?.mp h
  have hl : n < st.length := by
    rw [← S.len]
    exact (List.getElem?_eq_some_iff.mp hn).1
  exact (S.at_ n a _ hn (List.getElem?_eq_getElem hl)).there
theorem RelS.fresh (S : RelS g μ H st) (hp : H p = none) : p ∉ μ.m := fun h => by
  obtain ⟨u, e, _⟩ := S.mem h
  rw [hp] at e; cases e
theorem Rd.some {u : HO} (h : Rd H a u) : ∃ x, H a = some x := by
  rcases h with h | ⟨_, h⟩ <;> exact ⟨_, h⟩
theorem Rd.upd_ne {u : HO} (h : Rd H a u) (n : a ≠ p) : Rd (upd H p o) a u := by
  rcases h with h | ⟨x, h⟩
  · exact .inl (by rw [L2.upd_ne n]; exact h)
  · exact .inr ⟨x, by rw [L2.upd_ne n]; exact h⟩
theorem RelS.hne (S : RelS g μ H st) (hp : H p = none) (h : a ∈ μ.h) : a ≠ p := fun z => by
  obtain ⟨_, u, e⟩ := S.hid a h
  rw [z, hp] at e; cases e
theorem RelS.out (S : RelS g μ H st) (hp : H p = none) : μ.out p := ⟨S.fresh hp, fun h => S.hne hp h rfl⟩
theorem le_new (S : RelS g μ H st) (hp : H p = none) : Le μ H μ (upd H p o) := ⟨⟨fun _ _ h => h, fun a u n r _ => ⟨n, Rd.upd_ne r fun z => by
  obtain ⟨x, e⟩ := Rd.some r
  rw [z, hp] at e; cases e⟩, fun a vs _ h => by rw [L2.upd_ne (ne_of_none h hp)]; exact h⟩, rfl, fun a h => L2.upd_ne (S.hne hp h)⟩
theorem ext_new (hp : H p = none) : ∀ b u, H b = some u → upd H p o b = some u := fun b u e => by
  rw [L2.upd_ne (ne_of_none e hp)]
  exact e
theorem RelS.hid_new (S : RelS g μ H st) (hp : H p = none) : ∀ a ∈ μ.h, a ∉ μ.m ∧ ∃ vs : HidV, upd H p o a = some vs.ho := fun a h => by
  obtain ⟨n, u, e⟩ := S.hid a h
  exact ⟨n, u, ext_new hp a _ e⟩
theorem RelS.frz (S : RelS g μ H st) (hp : H p = none) : RelS g μ (upd H p o) st := ⟨S.len, S.nd, S.hid_new hp, fun n a so h1 h2 => by
  have r := S.at_ n a so h1 h2
  obtain ⟨u, e, _⟩ := r.there
  exact r.move (le_new S hp).toLw ((ext_new hp a u e).trans e.symm), S.tabs.ext (ext_new hp)⟩
/-- one more thing in the store -/
def Mp.add (μ : Mp) (p : Addr) : Mp := ⟨μ.m ++ [p], μ.h⟩
theorem le_new' (S : RelS g μ H st) (hp : H p = none) : Le μ H (μ.add p) (upd H p o) := by
  refine ⟨⟨fun n a h => ?_, fun a u n r t => ?_, fun a vs _ h => by rw [L2.upd_ne (ne_of_none h hp)]; exact h⟩, rfl, fun a h => L2.upd_ne (S.hne hp h)⟩
  · show (μ.m ++ [p])[n]? = some a
    rw [List.getElem?_append_left (List.getElem?_eq_some_iff.mp h).1]
    exact h
  · have hn : a ≠ p := fun z => by
      obtain ⟨x, e⟩ := Rd.some r
      rw [z, hp] at e; cases e
    exact ⟨⟨by simp [Mp.add, n.1, hn], n.2⟩, Rd.upd_ne r hn⟩
theorem RelS.new (S : RelS g μ H st) (hp : H p = none) {so : SO} (r : RepO g (μ.add p) (upd H p o) p so) : RelS g (μ.add p) (upd H p o) (st ++ [so]) := by
  refine ⟨by simp [Mp.add, S.len], ?_, fun a h => ?_, fun n a s h1 h2 => ?_, S.tabs.ext (ext_new hp)⟩
  · show (μ.m ++ [p]).Nodup
    rw [List.nodup_append]
    exact ⟨S.nd, by simp, fun x hx y hy z => S.fresh hp (by rw [List.mem_singleton.mp hy] at z; rw [← z]; exact hx)⟩
  · obtain ⟨n, u, e⟩ := S.hid a h
    exact ⟨by simp [Mp.add, n, S.hne hp h], u, ext_new hp a _ e⟩
  · have h1 : (μ.m ++ [p])[n]? = some a := h1
    by_cases hn : n < μ.m.length
    · rw [List.getElem?_append_left hn] at h1
      rw [List.getElem?_append_left (by rw [← S.len]; exact hn)] at h2
      have q := S.at_ n a s h1 h2
      obtain ⟨u, e, _⟩ := q.there
      exact q.move (le_new' S hp).toLw ((ext_new hp a u e).trans e.symm)
    · have hn2 : n = μ.m.length := by
        have := (List.getElem?_eq_some_iff.mp h1).1
        simp at this
        omega
      subst hn2
      simp at h1
      rw [S.len] at h2
      simp at h2
      subst h1 h2
      exact r
/-- a thing of the store is written -/
theorem le_set (S : RelS g μ H st) (h : a ∈ μ.m) : Le μ H μ (upd H a o) := ⟨⟨fun _ _ h => h, fun b u n r _ => ⟨n, Rd.upd_ne r fun z => n.1 (by rw [z]; exact h)⟩, fun b vs n e => (L2.upd_ne fun z => n.1 (by rw [z]; exact h)).trans e⟩, rfl, fun b hb => L2.upd_ne fun z => (S.hid b hb).1 (by rw [z]; exact h)⟩
theorem nodup_inj {α : Type} : ∀ {l : List α} {n m : Nat} {a : α}, l.Nodup → l[n]? = some a → l[m]? = some a → n = m
  | [], _, _, _, _, h, _ => by simp at h
  | x :: l, 0, 0, _, _, _, _ => rfl
  | x :: l, 0, m + 1, a, nd, h, h' => by
    simp at h h'
    subst h
    exact absurd (List.mem_of_getElem? h') (List.nodup_cons.mp nd).1
  | x :: l, n + 1, 0, a, nd, h, h' => by
    simp at h h'
    subst h'
    exact absurd (List.mem_of_getElem? h) (List.nodup_cons.mp nd).1
  | x :: l, n + 1, m + 1, a, nd, h, h' => congrArg (· + 1) (nodup_inj (List.nodup_cons.mp nd).2 (by simpa using h) (by simpa using h'))
theorem RelS.set (S : RelS g μ H st) {n : Nat} (h : μ.m[n]? = some a) {so : SO} (r : RepO g μ (upd H a o) a so) : RelS g μ (upd H a o) (st.set n so) := by
  have hm : a ∈ μ.m := List.mem_of_getElem? h
  obtain ⟨w, ew, hw⟩ := S.mem hm
  refine ⟨by simp [S.len], S.nd, fun b hb => ?_, fun m b s h1 h2 => ?_, ?_⟩
  · obtain ⟨n, u, e⟩ := S.hid b hb
    exact ⟨n, u, (L2.upd_ne fun z => n (by rw [z]; exact hm)).trans e⟩
  · by_cases hmn : n = m
    · subst hmn
      rw [h] at h1
      cases h1
      have hl : n < st.length := by
        rw [← S.len]
        exact (List.getElem?_eq_some_iff.mp h).1
      rw [List.getElem?_set_self hl] at h2
      cases h2
      exact r
    · rw [List.getElem?_set_ne hmn] at h2
      refine (S.at_ m b s h1 h2).move (le_set S hm).toLw (L2.upd_ne fun z => hmn ?_)
      subst z
      exact nodup_inj S.nd h h1
  · intro q hq
    obtain ⟨ps, h1, h2, h3⟩ := S.tabs q hq
    have n1 : q.1 ≠ a := fun z => by
      rw [z, ew] at h1
      cases h1
      exact hw
    refine ⟨ps, by rw [L2.upd_ne n1]; exact h1, h2, fun pos cv hc => ?_⟩
    obtain ⟨c, e1, e2⟩ := h3 pos cv hc
    refine ⟨c, e1, (L2.upd_ne ?_).trans e2⟩
    intro z
    rw [z, ew] at e2
    cases h9 : w with
    | ext φ =>
      -- an ext is no thing of the store
      rw [h9] at ew
      obtain ⟨m, hm2⟩ := List.mem_iff_getElem?.mp hm
      have hl : m < st.length := by
        rw [← S.len]
        exact (List.getElem?_eq_some_iff.mp hm2).1
      have q3 := S.at_ m a _ hm2 (List.getElem?_eq_getElem hl)
      cases h10 : st[m] with
      | lst ds => rw [h10] at q3; obtain ⟨vs, q4, _⟩ := q3; rw [ew] at q4; cases q4
      | dic ks ds =>
        rw [h10] at q3
        obtain ⟨vs, o4, q4, d4, _⟩ := q3
        rw [ew] at q4
        cases q4
        rcases d4 with ⟨_, _, d4⟩ | ⟨_, _, _, d4⟩ <;> cases d4
      | ins C fs => rw [h10] at q3; obtain ⟨dx, gs, q4, _⟩ := q3; rw [ew] at q4; cases q4
    | _ =>
      rw [h9] at e2
      unfold LamX.CodeO at e2
      cases e2
end

/-! ### what is wanted -/
def Post {α : Type} (g : GC) (W : WX) (σ : L2.St) (μ : Mp) (H : Hp) (r : R α) (P : Mp → Hp → α → Store → Prop) : Prop := match r with
  | .ok a st => ∀ μ' H', Le μ H μ' H' → RelS g μ' H' st → P μ' H' a st
  | .ex c st => ∀ μ' H', Le μ H μ' H' → RelS g μ' H' st → W (.ref (g.ga c)) none σ H'
  | .bad => False
section
variable {α β : Type} {g : GC} {W : WX} {σ : L2.St} {μ μ1 : Mp} {H H1 : Hp} {st : Store} {r : R α} {P P' : Mp → Hp → α → Store → Prop}
theorem Post.le (L : Le μ H μ1 H1) (h : Post g W σ μ H r P) : Post g W σ μ1 H1 r P := by
  cases r with
  | ok a st => exact fun μ' H' L' S => h μ' H' (L.trans L') S
  | ex c st => exact fun μ' H' L' S => h μ' H' (L.trans L') S
  | bad => exact h
theorem Post.imp (h : Post g W σ μ H r P) (hi : ∀ μ' H' a st, P μ' H' a st → P' μ' H' a st) : Post g W σ μ H r P' := by
  cases r with
  | ok a st => exact fun μ' H' L' S => hi _ _ _ _ (h μ' H' L' S)
  | ex c st => exact h
  | bad => exact h
theorem Post.here {a : α} (h : Post g W σ μ H (.ok a st) P) (S : RelS g μ H st) : P μ H a st := h μ H Le.refl S
end
abbrev VP (g : GC) (Q : VK) : Mp → Hp → D → Store → Prop := fun μ' H' d _ => ∀ v, Rep g μ' H' d v → Q v H'
def tDE (g : GC) (W : WX) (f : DE) : TE := fun σ H Q => ∃ μ env st, RelS g μ H st ∧ RelE g μ H env σ ∧ Post g W σ μ H (f env st) (VP g Q)
def tDT (g : GC) (W : WX) (f : DT) : TT := fun σ H Q => ∃ μ env st, RelS g μ H st ∧ RelE g μ H env σ ∧ Post g W σ μ H (f env st) (fun _ H' b _ => Q b H')
def tDA (g : GC) (W : WX) (f : DA) : TA := fun σ H Q => ∃ μ env st, RelS g μ H st ∧ RelE g μ H env σ ∧ Post g W σ μ H (f env st) (fun μ' H' ds _ => ∀ vs, Reps g μ' H' ds vs → Q vs H')
/-- an expression, a test, an argument list that does what f does -/
def PD (X : Cx) (g : GC) (W : WX) (e : Expr) (f : DE) : Prop := PE X e (tDE g W f)
def PTD (X : Cx) (g : GC) (W : WX) (e : Expr) (f : DT) : Prop := PT X e (tDT g W f)
def PAD (X : Cx) (g : GC) (W : WX) (es : List Expr) (f : DA) : Prop := PA X es (tDA g W f)
theorem PE.imp {X : Cx} {e : Expr} {t t' : TE} (h : PE X e t) (hi : ∀ σ H Q, t' σ H Q → t σ H Q) : PE X e t' := ⟨fun pins s σ H Q I q => h.run pins s σ H Q I (hi _ _ _ q)⟩
theorem PT.imp {X : Cx} {e : Expr} {t t' : TT} (h : PT X e t) (hi : ∀ σ H Q, t' σ H Q → t σ H Q) : PT X e t' := ⟨fun pins s σ H Q I q => h.run pins s σ H Q I (hi _ _ _ q)⟩
theorem PW.imp {X : Cx} {e : Expr} {t t' : TT} (h : PW X e t) (hi : ∀ σ H Q, t' σ H Q → t σ H Q) : PW X e t' := ⟨fun wh pins s σ H Q I q => h.run wh pins s σ H Q I (hi _ _ _ q)⟩
theorem PA.imp {X : Cx} {e : List Expr} {t t' : TA} (h : PA X e t) (hi : ∀ σ H Q, t' σ H Q → t σ H Q) : PA X e t' := ⟨fun pos pins s σ H Q I q => h.run pos pins s σ H Q I (hi _ _ _ q)⟩
theorem PS.imp {X : Cx} {e : Stmt} {t t' : TS} (h : PS X e t) (hi : ∀ D σ H, t' D σ H → t D σ H) : PS X e t' := ⟨fun pins s σ H D I q => h.run pins s σ H D I (hi _ _ _ q)⟩
theorem PSs.imp {X : Cx} {e : List Stmt} {t t' : TS} (h : PSs X e t) (hi : ∀ D σ H, t' D σ H → t D σ H) : PSs X e t' := ⟨fun pins s σ H D I q => h.run pins s σ H D I (hi _ _ _ q)⟩
section
variable {β : Type} {g : GC} {W : WX} {σ : L2.St} {μ : Mp} {H : Hp} {env : Env} {st : Store} {P : Mp → Hp → β → Store → Prop}
theorem bindE {f : DE} {k : D → Store → R β} (S : RelS g μ H st) (E : RelE g μ H env σ) (h : Post g W σ μ H ((f env st).bind k) P) {Rest : VK}
    (hk : ∀ μ1 H1 d st1 v, Le μ H μ1 H1 → RelS g μ1 H1 st1 → RelE g μ1 H1 env σ → Rep g μ1 H1 d v → Post g W σ μ1 H1 (k d st1) P → Rest v H1) : tDE g W f σ H Rest := by
  refine ⟨μ, env, st, S, E, ?_⟩
  generalize f env st = r at h ⊢
  cases r with
  | ok d st1 => exact fun μ1 H1 L S1 v rv => hk μ1 H1 d st1 v L S1 (E.le L) rv (Post.le L h)
  | ex c st1 => exact h
  | bad => exact h
theorem bindT {f : DT} {k : Bool → Store → R β} (S : RelS g μ H st) (E : RelE g μ H env σ) (h : Post g W σ μ H ((f env st).bind k) P) {Rest : Bool → Hp → Prop}
    (hk : ∀ μ1 H1 b st1, Le μ H μ1 H1 → RelS g μ1 H1 st1 → RelE g μ1 H1 env σ → Post g W σ μ1 H1 (k b st1) P → Rest b H1) : tDT g W f σ H Rest := by
  refine ⟨μ, env, st, S, E, ?_⟩
  generalize f env st = r at h ⊢
  cases r with
  | ok d st1 => exact fun μ1 H1 L S1 => hk μ1 H1 d st1 L S1 (E.le L) (Post.le L h)
  | ex c st1 => exact h
  | bad => exact h
theorem bindA {f : DA} {k : List D → Store → R β} (S : RelS g μ H st) (E : RelE g μ H env σ) (h : Post g W σ μ H ((f env st).bind k) P) {Rest : List V → Hp → Prop}
    (hk : ∀ μ1 H1 ds st1 vs, Le μ H μ1 H1 → RelS g μ1 H1 st1 → RelE g μ1 H1 env σ → Reps g μ1 H1 ds vs → Post g W σ μ1 H1 (k ds st1) P → Rest vs H1) : tDA g W f σ H Rest := by
  refine ⟨μ, env, st, S, E, ?_⟩
  generalize f env st = r at h ⊢
  cases r with
  | ok d st1 => exact fun μ1 H1 L S1 vs rv => hk μ1 H1 d st1 vs L S1 (E.le L) rv (Post.le L h)
  | ex c st1 => exact h
  | bad => exact h
end

/-! ### new lists, tuples -/
/-- a new list: of the store, or one that nobody changes -/
def mkL (b : Bool) (ds : List D) (st : Store) : R D := if b = true then .ok (.ref st.length) (st ++ [.lst ds]) else .ok (.lst ds) st
section
variable {g : GC} {W : WX} {σ : L2.St} {μ : Mp} {H : Hp} {st : Store} {Q : VK} {p : Addr}
theorem mkL_ok {b : Bool} {ds : List D} {vs : List V} (S : RelS g μ H st) (r : Reps g μ H ds vs) (h : Post g W σ μ H (mkL b ds st) (VP g Q)) (hp : H p = none) : Q (.ref p) (upd H p (.lst vs)) := by
  unfold mkL at h
  cases b with
  | true =>
    rw [if_pos rfl] at h
    refine h (μ.add p) _ (le_new' S hp) (S.new hp ⟨vs, upd_same, r.le (le_new' S hp)⟩) _ ⟨p, rfl, ?_⟩
    show (μ.m ++ [p])[st.length]? = some p
    rw [← S.len]
    simp
  | false =>
    rw [if_neg Bool.false_ne_true] at h
    exact h μ _ (le_new S hp) (S.frz hp) _ ⟨p, vs, rfl, ⟨S.out hp, upd_same⟩, r.le (le_new S hp)⟩
theorem mkT_ok {ds : List D} {vs : List V} (S : RelS g μ H st) (r : Reps g μ H ds vs) (h : Post g W σ μ H (.ok (.tup ds) st) (VP g Q)) (hp : H p = none) : Q (.ref p) (upd H p (.tup vs)) :=
  h μ _ (le_new S hp) (S.frz hp) _ ⟨p, vs, rfl, .inl ⟨S.out hp, .inl upd_same⟩, r.le (le_new S hp)⟩
end

/-! ### what stands around a piece of the program -/
structure Ok (X : Cx) (g : GC) (W : WX) (k : Nat) : Prop where
  hK : X.K = g.K
  tk : Takes X W
  hp : PassesOwn (model X.prog X.w) X.A X.env X.xe
  calm : X.calm = true
  nd : X.N.Nodup
  room : Room k X.A
theorem Ok.hu {X : Cx} {g : GC} {W : WX} {k : Nat} (O : Ok X g W k) : X.A.units + 64 < cLine := O.room.units

/-! ### names and constants -/
section
variable {X : Cx} {g : GC} {W : WX} {k : Nat} {pos : Pos}
def dVar (i : Nat) : DE := fun env st => match env[i]? with
  | some (some d) => .ok d st
  | _ => .bad
def dC (d : D) : DE := fun _ st => .ok d st
theorem pd_var (i : Nat) {x : Str} (hN : X.N[i]? = some x := by rfl) (hv : Vis X.env.scope x := by first | exact Or.inl rfl | exact Or.inr (Or.inl rfl) | exact Or.inr (Or.inr rfl)) (hd : (x == ("__debug__" : Str)) = false := by decide)
    (hcd : (x == ("__classdict__" : Str)) = false := by decide) : PD X g W (.Name x pos) (dVar i) := PE.imp (pe_var hN hv hd hcd) fun σ H Q ⟨μ, env, st, S, E, h⟩ => by
  unfold dVar at h
  split at h
  · rename_i d e
    obtain ⟨v, h1, h2⟩ := E.at_ i d e
    exact ⟨v, h1, h.here S v h2⟩
  · exact h.elim
theorem pd_int {i j} : PD X g W (.Constant (.int i) j pos) (dC (.int i)) := PE.imp pe_int fun σ H Q ⟨μ, env, st, S, E, h⟩ => h.here S _ rfl
theorem pd_bl {b j} : PD X g W (.Constant (.bool b) j pos) (dC (.bl b)) := PE.imp pe_bl fun σ H Q ⟨μ, env, st, S, E, h⟩ => h.here S _ rfl
theorem pd_non {j} : PD X g W (.Constant .none j pos) (dC .non) := PE.imp pe_non fun σ H Q ⟨μ, env, st, S, E, h⟩ => h.here S _ rfl
theorem pd_str {x j} : PD X g W (.Constant (.str x) j pos) (dC (.str x)) := PE.imp pe_str fun σ H Q ⟨μ, env, st, S, E, h⟩ => h.here S _ rfl
/-- what a constant of the module is -/
structure Glob (g : GC) (mg : Str → Option Value) (x : Str) (d : D) : Prop where
  is : ∃ u v, mg x = some u ∧ RelV v u ∧ ∀ μ H, Rep g μ H d v
theorem pd_glob {x : Str} {d : D} (G₀ : Glob g X.mg x d) (hg : Gl X x := by rfl) (hd : (x == ("__debug__" : Str)) = false := by decide) : PD X g W (.Name x pos) (dC d) := by
  obtain ⟨u, v, h1, h2, h3⟩ := G₀.is
  exact PE.imp (pe_glob hg h1 h2 hd) fun σ H Q ⟨μ, env, st, S, E, h⟩ => h.here S _ (h3 _ _)

/-! ### operators -/
def RV (g : GC) (W : WX) (r : R2) (h : D → D → Store → R D) : Prop := ∀ (σ : L2.St) (μ : Mp) (H : Hp) (st : Store) (x y : D) (v u : V) (Q : VK), RelS g μ H st → Rep g μ H x v → Rep g μ H y u → Post g W σ μ H (h x y st) (VP g Q) → r v u H Q
def OpD (X : Cx) (g : GC) (W : WX) (f : Value → Value → Sem Value) (h : D → D → Store → R D) : Prop := ∃ r, OpR X f r ∧ RV g W r h
def dBin (h : D → D → Store → R D) (fa fb : DE) : DE := fun env st => (fa env st).bind fun x st => (fb env st).bind fun y st => h x y st
theorem dBin_tOp {r : R2} {h : D → D → Store → R D} {fa fb : DE} (hr : RV g W r h) {σ : L2.St} {H : Hp} {Q : VK} (q : tDE g W (dBin h fa fb) σ H Q) : tOp r (tDE g W fa) (tDE g W fb) σ H Q := by
  obtain ⟨μ, env, st, S, E, h⟩ := q
  refine bindE S E h fun μ1 H1 d st1 v L1 S1 E1 r1 h1 => ?_
  refine bindE S1 E1 h1 fun μ2 H2 d2 st2 v2 L2 S2 E2 r2 h2 => ?_
  exact hr σ μ2 H2 st2 d d2 v v2 Q S2 (r1.le L2) r2 h2
theorem pd_bin {a b : Expr} {fa fb : DE} {op : Operator} {h : D → D → Store → R D} (ho : OpD X g W (binaryOp op) h) (ha : PD X g W a fa) (hb : PD X g W b fb) : PD X g W (.BinOp a op b pos) (dBin h fa fb) := by
  obtain ⟨r, h1, h2⟩ := ho
  exact PE.imp (pe_op h1 ha hb) fun σ H Q q => dBin_tOp h2 q
theorem pd_cmp {a b : Expr} {fa fb : DE} {op : CmpOp} {h : D → D → Store → R D} (ho : OpD X g W (compareOp op) h) (ha : PD X g W a fa) (hb : PD X g W b fb) (hm : behindInMarks op b = false := by first | exact nomark _ | rfl) : PD X g W (.Compare a [op] [b] pos) (dBin h fa fb) := by
  obtain ⟨r, h1, h2⟩ := ho
  exact PE.imp (pe_cmpR h1 ha hb hm) fun σ H Q q => dBin_tOp h2 q
/-- a value that is True or False, as a test -/
def dB (f : DE) : DT := fun env st => (f env st).bind fun d st => match d with
  | .bl b => .ok b st
  | _ => .bad
theorem dB_ok {f : DE} {σ : L2.St} {H : Hp} {Q : Bool → Hp → Prop} (q : tDT g W (dB f) σ H Q) : tDE g W f σ H fun x H' => ∃ k, x = .bl k ∧ Q k H' := by
  obtain ⟨μ, env, st, S, E, h⟩ := q
  refine bindE S E h fun μ1 H1 d st1 v L1 S1 E1 r1 h1 => ?_
  cases d with
  | bl b => exact ⟨b, r1, h1.here S1⟩
  | _ => exact h1.elim
theorem pt_cmp {a b : Expr} {fa fb : DE} {op : CmpOp} {h : D → D → Store → R D} (ho : OpD X g W (compareOp op) h) (ha : PD X g W a fa) (hb : PD X g W b fb) (hm : behindInMarks op b = false := by first | exact nomark _ | rfl) : PTD X g W (.Compare a [op] [b] pos) (dB (dBin h fa fb)) := by
  obtain ⟨r, h1, h2⟩ := ho
  exact PT.imp (pt_cmpR h1 ha hb hm) fun σ H Q q => dBin_tOp h2 (dB_ok q)
/-- a < b < c -/
def dChain (h h' : D → D → Store → R D) (fa fb fc : DE) : DE := fun env st => (fa env st).bind fun x st => (fb env st).bind fun y st => (h x y st).bind fun z st => match z with
  | .bl true => (fc env st).bind fun w st => h' y w st
  | .bl false => .ok (.bl false) st
  | _ => .bad
theorem dChain_ok {r r' : R2} {h h' : D → D → Store → R D} {fa fb fc : DE} (hr : RV g W r h) (hr' : RV g W r' h') {σ : L2.St} {H : Hp} {Q : VK} (q : tDE g W (dChain h h' fa fb fc) σ H Q) : tChain r r' (tDE g W fa) (tDE g W fb) (tDE g W fc) σ H Q := by
  obtain ⟨μ, env, st, S, E, h0⟩ := q
  refine bindE S E h0 fun μ1 H1 d st1 v L1 S1 E1 r1 h1 => ?_
  refine bindE S1 E1 h1 fun μ2 H2 d2 st2 v2 L2 S2 E2 r2 h2 => ?_
  refine hr σ μ2 H2 st2 d d2 v v2 _ S2 (r1.le L2) r2 ?_
  generalize h d d2 st2 = rr at h2 ⊢
  cases rr with
  | ex c st => exact h2
  | bad => exact h2
  | ok z st3 =>
    intro μ3 H3 L3 S3 w rw_
    have h3 := Post.le L3 h2
    cases z with
    | bl b =>
      refine ⟨b, rw_, ?_⟩
      cases b with
      | true =>
        rw [if_pos rfl]
        refine bindE S3 (E2.le L3) h3 fun μ4 H4 d4 st4 v4 L4 S4 E4 r4 h4 => ?_
        exact hr' σ μ4 H4 st4 d2 d4 v2 v4 Q S4 (r2.le (L3.trans L4)) r4 h4
      | false =>
        rw [if_neg Bool.false_ne_true]
        exact (show Post g W σ μ3 H3 (.ok (.bl false) st3) (VP g Q) from h3).here S3 _ rfl
    | _ => exact h3.elim
theorem pd_chain {a b c : Expr} {fa fb fc : DE} {op op' : CmpOp} {h h' : D → D → Store → R D} (ho : OpD X g W (compareOp op) h) (ho' : OpD X g W (compareOp op') h') (ha : PD X g W a fa) (hb : PD X g W b fb) (hc : PD X g W c fc)
    (hm : lastMarks [op, op'] [b, c] = false := by with_unfolding_all rfl) : PD X g W (.Compare a [op, op'] [b, c] pos) (dChain h h' fa fb fc) := by
  obtain ⟨r, h1, h2⟩ := ho
  obtain ⟨r', h1', h2'⟩ := ho'
  exact PE.imp (pe_chain h1 h1' ha hb hc hm) fun σ H Q q => dChain_ok h2 h2' q
end
end G

namespace G
open PySem L2
/-! ### what a list, a tuple holds -/
def lstAt (st : Store) (n : Nat) : Option (List D) := match st[n]? with
  | some (.lst ds) => some ds
  | _ => none
theorem lstAt_eq {st : Store} {n : Nat} {ds : List D} (h : lstAt st n = some ds) : st[n]? = some (.lst ds) := by
  unfold lstAt at h
  split at h
  · rename_i e
    cases h
    exact e
  · cases h
def seqL (st : Store) : D → Option (List D)
  | .lst ds => some ds
  | .ref n => lstAt st n
  | .scr ns => some (ns.map .int)
  | _ => none
def seqT : D → Option (List D)
  | .tup ds => some ds
  | _ => none
def seqA (st : Store) : D → Option (List D)
  | .tup ds => some ds
  | d => seqL st d
/-- .. that is no list of the written part -/
def seqR (st : Store) : D → Option (List D)
  | .lst ds => some ds
  | .ref n => lstAt st n
  | _ => none
def intsD : List D → Option (List Int)
  | [] => some []
  | .int i :: r => (intsD r).map (i :: ·)
  | _ :: _ => none
@[simp] theorem ints_map : ∀ ns : List Int, intsD (ns.map .int) = some ns
  | [] => rfl
  | n :: ns => by rw [List.map_cons, intsD, ints_map ns]; rfl
section
variable {g : GC} {μ : Mp} {H : Hp} {st : Store} {d : D} {ds : List D} {v : V}
theorem reps_ints : ∀ (ns : List Int), Reps g μ H (ns.map .int) (ns.map V.int)
  | [] => rfl
  | n :: ns => ⟨.int n, _, rfl, rfl, reps_ints ns⟩
theorem ints_ok : ∀ {ds : List D} {ns : List Int} {vs : List V}, intsD ds = some ns → Reps g μ H ds vs → vs = ns.map V.int
  | [], ns, vs, e, r => by cases e; exact r
  | d :: ds, ns, vs, e, r => by
    obtain ⟨v, vr, e1, r1, r2⟩ := r
    cases d with
    | int i =>
      have e : (intsD ds).map (i :: ·) = some ns := e
      cases q : intsD ds with
      | none => rw [q] at e; cases e
      | some ms =>
        rw [q] at e
        cases e
        rw [e1, show v = V.int i from r1, ints_ok q r2] <;> rfl
    | _ => cases e
theorem rd_l {a : Addr} {vs : List V} (h : Rd H a (.lst vs)) : SqL g.K H a vs := .inl h
theorem seqL_ok (S : RelS g μ H st) (r : Rep g μ H d v) (e : seqL st d = some ds) : ∃ a vs, v = .ref a ∧ SqL g.K H a vs ∧ Reps g μ H ds vs := by
  cases d with
  | lst xs =>
    cases e
    obtain ⟨a, vs, e, ⟨_, h⟩, r⟩ := r
    exact ⟨a, vs, e, .inl (.inl h), r⟩
  | ref n =>
    obtain ⟨a, e1, h⟩ := r
    obtain ⟨vs, h1, h2⟩ := S.at_ n a _ h (lstAt_eq e)
    exact ⟨a, vs, e1, .inl (.inl h1), h2⟩
  | scr ns =>
    cases e
    obtain ⟨a, e, h⟩ := r
    refine ⟨a, _, e, ?_, reps_ints ns⟩
    rcases h with ⟨_, h⟩ | h
    · exact .inl h
    · exact .inr h
  | _ => cases e
theorem seqR_ok (S : RelS g μ H st) (r : Rep g μ H d v) (e : seqR st d = some ds) : ∃ a vs, v = .ref a ∧ H a = some (.lst vs) ∧ Reps g μ H ds vs := by
  cases d with
  | lst xs =>
    cases e
    obtain ⟨a, vs, e, ⟨_, h⟩, r⟩ := r
    exact ⟨a, vs, e, h, r⟩
  | ref n =>
    obtain ⟨a, e1, h⟩ := r
    obtain ⟨vs, h1, h2⟩ := S.at_ n a _ h (lstAt_eq e)
    exact ⟨a, vs, e1, h1, h2⟩
  | _ => cases e
theorem seqT_ok (r : Rep g μ H d v) (e : seqT d = some ds) : ∃ a vs, v = .ref a ∧ SqT g.K H a vs ∧ Reps g μ H ds vs := by
  cases d with
  | tup xs =>
    cases e
    obtain ⟨a, vs, e, h, r⟩ := r
    refine ⟨a, vs, e, ?_, r⟩
    rcases h with ⟨_, h⟩ | h
    · exact .inl h
    · exact .inr h
  | _ => cases e
theorem seqA_ok (S : RelS g μ H st) (r : Rep g μ H d v) (e : seqA st d = some ds) : ∃ a vs, v = .ref a ∧ (SqL g.K H a vs ∨ SqT g.K H a vs) ∧ Reps g μ H ds vs := by
  cases d with
  | tup xs =>
    obtain ⟨a, vs, h1, h2, h3⟩ := seqT_ok (d := .tup xs) r e
    exact ⟨a, vs, h1, .inr h2, h3⟩
  | _ =>
    obtain ⟨a, vs, h1, h2, h3⟩ := seqL_ok S r e
    exact ⟨a, vs, h1, .inl h2, h3⟩
end

theorem sizeLine_le {n : Nat} (h : n ≤ 16777216) : n ≤ sizeLine := by
  rw [sizeLine_eq]
  exact h

/-! ### the operators, on data -/
def aAdd (b : Bool) : D → D → Store → R D
  | .int i, .int j, st => .ok (.int (i + j)) st
  | .str x, .str y, st => if x.length + y.length ≤ 16777216 then .ok (.str (x ++ y)) st else .bad
  | .tup xs, .tup ys, st => if xs.length + ys.length ≤ 16777216 then .ok (.tup (xs ++ ys)) st else .bad
  | x, y, st => match seqR st x, seqR st y with
    | some xs, some ys => if xs.length + ys.length ≤ 16777216 then mkL b (xs ++ ys) st else .bad
    | _, _ => .bad
def aSub : D → D → Store → R D
  | .int i, .int j, st => .ok (.int (i - j)) st
  | _, _, _ => .bad
def okMul (i j : Int) : Bool := decide (-18446744073709551616 < i ∧ i < 18446744073709551616) || decide (-18446744073709551616 < j ∧ j < 18446744073709551616)
def aMul (b : Bool) : D → D → Store → R D
  | .int i, .int j, st => if okMul i j = true then .ok (.int (i * j)) st else .bad
  | .lst xs, .int k, st => if decide (-9223372036854775808 ≤ k) && decide (k < 9223372036854775808) && decide (xs.length * k.toNat ≤ 16777216) then mkL b (List.replicate k.toNat xs).flatten st else .bad
  | _, _, _ => .bad
def aFdiv : D → D → Store → R D
  | .int i, .int j, st => if j ≠ 0 ∧ j.natAbs < 1073741824 then .ok (.int (i.fdiv j)) st else .bad
  | _, _, _ => .bad
def aMod : D → D → Store → R D
  | .int i, .int j, st => if j ≠ 0 then .ok (.int (i.fmod j)) st else .bad
  | _, _, _ => .bad
def aPow : D → D → Store → R D
  | .int i, .int j, st => if 0 ≤ j ∧ j ≤ 1000000 ∧ i.natAbs < 18446744073709551616 then .ok (.int (i ^ j.toNat)) st else .bad
  | _, _, _ => .bad
def aLt : D → D → Store → R D
  | .int i, .int j, st => .ok (.bl (decide (i < j))) st
  | .tup xs, .tup ys, st => match intsD xs, intsD ys with
    | some ns, some ms => .ok (.bl (HT.lexLt ns ms)) st
    | _, _ => .bad
  | .str x, .str y, st => .ok (.bl (decide (x.cps.toList < y.cps.toList))) st
  | _, _, _ => .bad
def aLe : D → D → Store → R D
  | .int i, .int j, st => .ok (.bl (decide (i ≤ j))) st
  | _, _, _ => .bad
def aGt : D → D → Store → R D
  | .int i, .int j, st => .ok (.bl (decide (j < i))) st
  | _, _, _ => .bad
def aGe : D → D → Store → R D
  | .int i, .int j, st => .ok (.bl (decide (j ≤ i))) st
  | _, _, _ => .bad
/-- is None -/
def D.isNon : D → Bool
  | .non => true
  | _ => false
def aIsN : D → D → Store → R D
  | x, .non, st => .ok (.bl x.isNon) st
  | _, _, _ => .bad
def aNotN : D → D → Store → R D
  | x, .non, st => .ok (.bl (!x.isNon)) st
  | _, _, _ => .bad
section
variable {g : GC} {μ : Mp} {H : Hp}
theorem isNon_ok {d : D} {v : V} (r : Rep g μ H d v) : decide (v = .non) = d.isNon := by
  cases d with
  | non => rw [show v = .non from r] <;> rfl
  | bl b => rw [show v = .bl b from r] <;> rfl
  | int b => rw [show v = .int b from r] <;> rfl
  | str b => rw [show v = .str b from r] <;> rfl
  | tup ds => obtain ⟨a, vs, e, _⟩ := r; rw [e] <;> rfl
  | lst ds => obtain ⟨a, vs, e, _⟩ := r; rw [e] <;> rfl
  | dic ks ds => obtain ⟨a, vs, o, e, _⟩ := r; rw [e] <;> rfl
  | ref n => obtain ⟨a, e, _⟩ := r; rw [e] <;> rfl
  | fn x => rw [show v = .ref _ from r] <;> rfl
  | lam n => obtain ⟨a, _, _, _, _, e, _⟩ := r; rw [e] <;> rfl
  | scr ns => obtain ⟨a, e, _⟩ := r; rw [e] <;> rfl
end

/-! ### == -/
mutual
def D.eqv : D → D → Bool
  | .non, .non => true
  | .bl a, .bl b => a == b
  | .bl a, .int j => (if a then 1 else 0) == j
  | .int i, .bl b => i == (if b then 1 else 0)
  | .int i, .int j => i == j
  | .str x, .str y => x == y
  | .lst xs, .lst ys => D.eqvs xs ys
  | .tup xs, .tup ys => D.eqvs xs ys
  | _, _ => false
def D.eqvs : List D → List D → Bool
  | [], [] => true
  | x :: xs, y :: ys => D.eqv x y && D.eqvs xs ys
  | _, _ => false
end
mutual
/-- None, bools, intsD, texts, lists and tuples of such -/
def D.dat : D → Bool
  | .non => true
  | .bl _ => true
  | .int _ => true
  | .str x => x.cps.all (· < 0x110000)
  | .lst xs => D.dats xs
  | .tup xs => D.dats xs
  | _ => false
def D.dats : List D → Bool
  | [] => true
  | x :: xs => D.dat x && D.dats xs
end
mutual
def D.dep : D → Nat
  | .lst xs => D.deps xs + 1
  | .tup xs => D.deps xs + 1
  | _ => 0
def D.deps : List D → Nat
  | [] => 0
  | x :: xs => max (D.dep x) (D.deps xs)
end
mutual
def D.py : D → PyData
  | .non => .none
  | .bl b => .bool b
  | .int i => .int i
  | .str x => .str x
  | .lst xs => .list (D.pys xs)
  | .tup xs => .tuple (D.pys xs)
  | _ => .none
def D.pys : List D → List PyData
  | [] => []
  | x :: xs => D.py x :: D.pys xs
end
section
variable {g : GC} {μ : Mp} {H : Hp}
mutual
theorem py_can : ∀ {d : D}, d.dat = true → (D.py d).canLay0 = true
  | .non, _ => rfl
  | .bl _, _ => rfl
  | .int _, _ => rfl
  | .str x, h => h
  | .lst xs, h => by
    have h : D.dats xs = true := h
    exact pys_can h
  | .tup xs, h => by
    have h : D.dats xs = true := h
    exact pys_can h
  | .dic _ _, h => nomatch h
  | .ref _, h => nomatch h
  | .fn _, h => nomatch h
  | .lam _, h => nomatch h
  | .scr _, h => nomatch h
theorem pys_can : ∀ {ds : List D}, D.dats ds = true → PyData.canLayAll0 (D.pys ds) = true
  | [], _ => rfl
  | d :: ds, h => by
    have h : (D.dat d && D.dats ds) = true := h
    rw [Bool.and_eq_true] at h
    show ((D.py d).canLay0 && PyData.canLayAll0 (D.pys ds)) = true
    rw [py_can h.1, pys_can h.2] <;> rfl
end
mutual
theorem py_dep : ∀ (d : D), (D.py d).depth = d.dep
  | .non => rfl
  | .bl _ => rfl
  | .int _ => rfl
  | .str x => rfl
  | .lst xs => congrArg (· + 1) (pys_dep xs)
  | .tup xs => congrArg (· + 1) (pys_dep xs)
  | .dic _ _ => rfl
  | .ref _ => rfl
  | .fn _ => rfl
  | .lam _ => rfl
  | .scr _ => rfl
theorem pys_dep : ∀ (ds : List D), PyData.depthAll (D.pys ds) = D.deps ds
  | [] => rfl
  | d :: ds => by
    show max (D.py d).depth (PyData.depthAll (D.pys ds)) = max d.dep (D.deps ds)
    rw [py_dep d, pys_dep ds]
end
mutual
theorem py_eqv : ∀ (d e : D), d.dat = true → e.dat = true → PyData.eqv (D.py d) (D.py e) = D.eqv d e
  | .non, e, _, h => by cases e <;> first | rfl | cases h
  | .bl _, e, _, h => by cases e <;> first | rfl | cases h
  | .int _, e, _, h => by cases e <;> first | rfl | cases h
  | .str x, e, _, h => by cases e <;> first | rfl | cases h
  | .lst xs, e, q, h => by
    cases e <;> first
      | exact pys_eqv xs _ q h
      | rfl
      | cases h
  | .tup xs, e, q, h => by
    cases e <;> first
      | exact pys_eqv xs _ q h
      | rfl
      | cases h
  | .dic _ _, _, h, _ => nomatch h
  | .ref _, _, h, _ => nomatch h
  | .fn _, _, h, _ => nomatch h
  | .lam _, _, h, _ => nomatch h
  | .scr _, _, h, _ => nomatch h
theorem pys_eqv : ∀ (ds es : List D), D.dats ds = true → D.dats es = true → PyData.eqvAll (D.pys ds) (D.pys es) = D.eqvs ds es
  | [], [], _, _ => rfl
  | [], _ :: _, _, _ => rfl
  | _ :: _, [], _, _ => rfl
  | d :: ds, e :: es, h, h' => by
    have h : (D.dat d && D.dats ds) = true := h
    have h' : (D.dat e && D.dats es) = true := h'
    rw [Bool.and_eq_true] at h h'
    show (PyData.eqv (D.py d) (D.py e) && PyData.eqvAll (D.pys ds) (D.pys es)) = (D.eqv d e && D.eqvs ds es)
    rw [py_eqv d e h.1 h'.1, pys_eqv ds es h.2 h'.2]
end
mutual
theorem py_dp : ∀ {d : D} {v : V}, d.dat = true → Rep g μ H d v → Dp g.K H v (D.py d)
  | .non, v, _, r => by rw [show v = .non from r]; exact .non
  | .bl b, v, _, r => by rw [show v = .bl b from r]; exact .bl b
  | .int i, v, _, r => by rw [show v = .int i from r]; exact .int i
  | .str x, v, _, r => by rw [show v = .str x from r]; exact .str x
  | .lst xs, v, h, r => by
    obtain ⟨a, vs, e, ⟨_, h1⟩, h2⟩ := r
    rw [e]
    exact .lst (.inl (.inl h1)) (pys_dp h h2)
  | .tup xs, v, h, r => by
    obtain ⟨a, vs, e, h1, h2⟩ := r
    rw [e]
    refine .tup ?_ (pys_dp h h2)
    rcases h1 with ⟨_, h⟩ | h
    · exact .inl h
    · exact .inr h
  | .dic _ _, _, h, _ => nomatch h
  | .ref _, _, h, _ => nomatch h
  | .fn _, _, h, _ => nomatch h
  | .lam _, _, h, _ => nomatch h
  | .scr _, _, h, _ => nomatch h
theorem pys_dp : ∀ {ds : List D} {vs : List V}, D.dats ds = true → Reps g μ H ds vs → DpAll g.K H vs (D.pys ds)
  | [], vs, _, r => by rw [show vs = [] from r]; exact .nil
  | d :: ds, vs, h, r => by
    have h : (D.dat d && D.dats ds) = true := h
    rw [Bool.and_eq_true] at h
    obtain ⟨v, vr, e, h1, h2⟩ := r
    rw [e]
    exact .cons (py_dp h.1 h1) (pys_dp h.2 h2)
end
end
def D.isStr : D → Bool
  | .str _ => true
  | _ => false
def D.isSc : D → Bool
  | .non => true
  | .bl _ => true
  | .int _ => true
  | .str _ => true
  | _ => false
/-- a list of the store, as a list -/
def norm (st : Store) : D → D
  | .ref n => match lstAt st n with
    | some ds => .lst ds
    | none => .ref n
  | .scr ns => .lst (ns.map .int)
  | d => d
/-- what == asks -/
def okEq (x y : D) : Bool := (x.isSc && y.isSc && (x.isStr || y.isStr)) || (x.dat && y.dat && decide (x.dep ≤ 64) && decide (y.dep ≤ 64))
def aEq (x y : D) (st : Store) : R D := if okEq (norm st x) (norm st y) = true then .ok (.bl (D.eqv (norm st x) (norm st y))) st else .bad
def aNe (x y : D) (st : Store) : R D := if okEq (norm st x) (norm st y) = true then .ok (.bl (!D.eqv (norm st x) (norm st y))) st else .bad
section
variable {g : GC} {μ : Mp} {H : Hp} {st : Store}
theorem norm_dp (S : RelS g μ H st) {d : D} {v : V} (h : (norm st d).dat = true) (r : Rep g μ H d v) : Dp g.K H v (D.py (norm st d)) := by
  cases d with
  | ref n =>
    obtain ⟨a, e1, h1⟩ := r
    cases q : lstAt st n with
    | none => simp only [norm, q] at h; cases h
    | some xs =>
      simp only [norm, q] at h ⊢
      obtain ⟨vs, h2, h3⟩ := S.at_ n a _ h1 (lstAt_eq q)
      rw [e1]
      exact .lst (.inl (.inl h2)) (pys_dp h h3)
  | scr ns =>
    obtain ⟨a, e1, h1⟩ := r
    rw [e1]
    refine .lst ?_ (pys_dp (g := g) (μ := μ) (H := H) h (reps_ints ns))
    rcases h1 with ⟨_, h⟩ | h
    · exact .inl h
    · exact .inr h
  | _ => exact py_dp h r
theorem norm_sc {d : D} {v : V} (h : (norm st d).isSc = true) (r : Rep g μ H d v) : Rep g μ H (norm st d) v := by
  cases d with
  | ref n =>
    cases q : lstAt st n with
    | none => simp only [norm, q] at h; cases h
    | some so => simp only [norm, q] at h; cases h
  | scr ns => cases h
  | _ => exact r
theorem sc_eq {x y : D} {v u : V} (hx : x.isSc = true) (hy : y.isSc = true) (hs : (x.isStr || y.isStr) = true) (r : Rep g μ H x v) (q : Rep g μ H y u) : scal v u = true ∧ decide (v = u) = D.eqv x y := by
  have st_ : ∀ a b : Str, decide (V.str a = V.str b) = (a == b) := fun a b => dec_str
  cases x with
  | non =>
    rw [show v = .non from r]
    cases y with
    | str b => rw [show u = .str b from q]; exact ⟨rfl, rfl⟩
    | _ => first | cases hs | cases hy
  | bl a =>
    rw [show v = .bl a from r]
    cases y with
    | str b => rw [show u = .str b from q]; exact ⟨rfl, rfl⟩
    | _ => first | cases hs | cases hy
  | int a =>
    rw [show v = .int a from r]
    cases y with
    | str b => rw [show u = .str b from q]; exact ⟨rfl, rfl⟩
    | _ => first | cases hs | cases hy
  | str a =>
    rw [show v = .str a from r]
    cases y with
    | non => rw [show u = .non from q]; exact ⟨rfl, rfl⟩
    | bl b => rw [show u = .bl b from q]; exact ⟨rfl, rfl⟩
    | int b => rw [show u = .int b from q]; exact ⟨rfl, rfl⟩
    | str b => rw [show u = .str b from q]; exact ⟨rfl, st_ a b⟩
    | _ => cases hy
  | _ => cases hx
end

/-! ### they do so -/
section
variable {X : Cx} {g : GC} {W : WX} {k : Nat}
theorem len_nil {μ : Mp} {H : Hp} {ds : List D} {vs : List V} (r : Reps g μ H ds vs) (h : vs = []) : ds = [] := by
  have := r.len
  rw [h] at this
  exact List.eq_nil_of_length_eq_zero this
theorem oAdd {b : Bool} (O : Ok X g W k) : OpD X g W (binaryOp .Add) (aAdd b) := by
  refine ⟨_, (op_add.or op_add_str).or ((op_catA).or op_cat), ?_⟩
  intro σ μ H st x y v u Q S rx ry h
  unfold aAdd at h
  split at h
  · exact .inl (.inl ⟨_, _, rx, ry, h.here S _ rfl⟩)
  · split at h
    · rename_i hl
      exact .inl (.inr ⟨_, _, rx, ry, sizeLine_le hl, h.here S _ rfl⟩)
    · exact h.elim
  · split at h
    · rename_i xs ys hl
      obtain ⟨a, vs, e1, h1, r1⟩ := seqT_ok rx rfl
      obtain ⟨a2, vs2, e2, h2, r2⟩ := seqT_ok ry rfl
      refine .inr (.inl ?_)
      rw [O.hK]
      refine ⟨a, a2, vs, vs2, e1, e2, h1, h2, sizeLine_le (by rw [← r1.len, ← r2.len]; exact hl), fun z => ?_, fun _ z => ?_, fun _ _ p hp => mkT_ok S (r1.append r2) h hp⟩
      · have e := len_nil r1 z
        subst e e2
        exact h.here S _ ry
      · have e := len_nil r2 z
        subst e e1
        rw [List.append_nil] at h
        exact h.here S _ rx
    · exact h.elim
  · split at h
    · rename_i xs ys e1 e2
      split at h
      · rename_i hl
        obtain ⟨a, vs, e1, h1, r1⟩ := seqR_ok S rx e1
        obtain ⟨a2, vs2, e2, h2, r2⟩ := seqR_ok S ry e2
        exact .inr (.inr ⟨a, a2, vs, vs2, e1, e2, h1, h2, sizeLine_le (by rw [← r1.len, ← r2.len]; exact hl), fun p hp => mkL_ok S (r1.append r2) h hp⟩)
      · exact h.elim
    · exact h.elim
/-- two ints in, a value out -/
theorem oI {f : Value → Value → Sem Value} {q : Int → Int → V} {h : D → D → Store → R D} (ho : OpR X f (rI0 q)) (q' : Int → Int → D) (hq : ∀ i j μ H, Rep g μ H (q' i j) (q i j)) (h1 : ∀ i j st, h (.int i) (.int j) st = .ok (q' i j) st)
    (h2 : ∀ x y st, (∀ i j, ¬ (x = .int i ∧ y = .int j)) → h x y st = .bad) : OpD X g W f h := by
  refine ⟨_, ho, fun σ μ H st x y v u Q S rx ry hh => ?_⟩
  by_cases e : ∃ i j, x = .int i ∧ y = .int j
  · obtain ⟨i, j, rfl, rfl⟩ := e
    rw [h1] at hh
    exact ⟨i, j, rx, ry, hh.here S _ (hq _ _ _ _)⟩
  · rw [h2 x y st fun i j q => e ⟨i, j, q⟩] at hh
    exact hh.elim
theorem oSub : OpD X g W (binaryOp .Sub) aSub := oI op_sub (fun i j => .int (i - j)) (fun _ _ _ _ => rfl) (fun _ _ _ => rfl) fun x y st h => by
  unfold aSub
  split
  · exact absurd ⟨rfl, rfl⟩ (h _ _)
  · rfl
theorem okMul_ok {i j : Int} (h : okMul i j = true) : CMul i j := by
  unfold okMul at h
  rw [Bool.or_eq_true] at h
  rcases h with h | h
  · exact .inl (of_decide_eq_true h)
  · exact .inr (of_decide_eq_true h)
theorem reps_rep {μ : Mp} {H : Hp} {ds : List D} {vs : List V} (r : Reps g μ H ds vs) : ∀ n : Nat, Reps g μ H (List.replicate n ds).flatten (List.replicate n vs).flatten
  | 0 => rfl
  | n + 1 => by
    rw [List.replicate_succ, List.replicate_succ, List.flatten_cons, List.flatten_cons]
    exact r.append (reps_rep r n)
theorem oMul {b : Bool} : OpD X g W (binaryOp .Mult) (aMul b) := by
  refine ⟨_, op_mul.or op_rep, fun σ μ H st x y v u Q S rx ry h => ?_⟩
  unfold aMul at h
  split at h
  · split at h
    · rename_i hm
      exact .inl ⟨_, _, rx, ry, okMul_ok hm, h.here S _ rfl⟩
    · exact h.elim
  · split at h
    · rename_i xs k hm
      simp only [Bool.and_eq_true, decide_eq_true_eq] at hm
      obtain ⟨⟨h1, h2⟩, h3⟩ := hm
      obtain ⟨a, vs, e1, ⟨_, hl⟩, r1⟩ := rx
      exact .inr ⟨a, k, vs, e1, ry, hl, h1, h2, sizeLine_le (by rw [← r1.len]; exact h3), fun p hp => mkL_ok S (reps_rep r1 _) h hp⟩
    · exact h.elim
  · exact h.elim
/-- two ints in under a condition -/
theorem oC {f : Value → Value → Sem Value} {C : Int → Int → Prop} {q : Int → Int → V} {h : D → D → Store → R D} (ho : OpR X f (rI C q)) (c : Int → Int → Prop) [∀ i j, Decidable (c i j)] (q' : Int → Int → D) (hq : ∀ i j μ H, Rep g μ H (q' i j) (q i j)) (hc : ∀ i j, c i j → C i j)
    (h1 : ∀ i j st, h (.int i) (.int j) st = if c i j then .ok (q' i j) st else .bad) (h2 : ∀ x y st, (∀ i j, ¬ (x = .int i ∧ y = .int j)) → h x y st = .bad) : OpD X g W f h := by
  refine ⟨_, ho, fun σ μ H st x y v u Q S rx ry hh => ?_⟩
  by_cases e : ∃ i j, x = .int i ∧ y = .int j
  · obtain ⟨i, j, rfl, rfl⟩ := e
    rw [h1] at hh
    split at hh
    · rename_i hcc
      exact ⟨i, j, rx, ry, hc _ _ hcc, hh.here S _ (hq _ _ _ _)⟩
    · exact hh.elim
  · rw [h2 x y st fun i j q => e ⟨i, j, q⟩] at hh
    exact hh.elim
theorem oFdiv : OpD X g W (binaryOp .FloorDiv) aFdiv := oC op_fdivN (fun i j => j ≠ 0 ∧ j.natAbs < 1073741824) (fun i j => .int (i.fdiv j)) (fun _ _ _ _ => rfl) (fun _ _ h => h) (fun _ _ _ => rfl) fun x y st h => by
  unfold aFdiv
  split
  · exact absurd ⟨rfl, rfl⟩ (h _ _)
  · rfl
theorem oMod : OpD X g W (binaryOp .Mod) aMod := oC op_modN (fun i j => j ≠ 0) (fun i j => .int (i.fmod j)) (fun _ _ _ _ => rfl) (fun _ _ h => h) (fun _ _ _ => rfl) fun x y st h => by
  unfold aMod
  split
  · exact absurd ⟨rfl, rfl⟩ (h _ _)
  · rfl
theorem oPow : OpD X g W (binaryOp .Pow) aPow := oC op_pow (fun i j => 0 ≤ j ∧ j ≤ 1000000 ∧ i.natAbs < 18446744073709551616) (fun i j => .int (i ^ j.toNat)) (fun _ _ _ _ => rfl) (fun _ _ h => h) (fun _ _ _ => rfl) fun x y st h => by
  unfold aPow
  split
  · exact absurd ⟨rfl, rfl⟩ (h _ _)
  · rfl
theorem oLt (O : Ok X g W k) : OpD X g W (compareOp .Lt) aLt := by
  refine ⟨_, (op_lt.or (op_ltT (by have := O.hu; omega))).or op_lt_str, fun σ μ H st x y v u Q S rx ry h => ?_⟩
  unfold aLt at h
  split at h
  · exact .inl (.inl ⟨_, _, rx, ry, h.here S _ rfl⟩)
  · split at h
    · rename_i xs ys ns ms h1 h2
      obtain ⟨a, vs, e1, q1, r1⟩ := seqT_ok rx rfl
      obtain ⟨a2, vs2, e2, q2, r2⟩ := seqT_ok ry rfl
      refine .inl (.inr ?_)
      rw [O.hK]
      rw [ints_ok h1 r1] at q1
      rw [ints_ok h2 r2] at q2
      exact ⟨a, a2, ns, ms, e1, e2, q1, q2, h.here S _ rfl⟩
    · exact h.elim
  · exact .inr ⟨_, _, rx, ry, h.here S _ rfl⟩
  · exact h.elim
theorem oLe : OpD X g W (compareOp .LtE) aLe := oI op_le (fun i j => .bl (decide (i ≤ j))) (fun _ _ _ _ => rfl) (fun _ _ _ => rfl) fun x y st h => by
  unfold aLe
  split
  · exact absurd ⟨rfl, rfl⟩ (h _ _)
  · rfl
theorem oGt : OpD X g W (compareOp .Gt) aGt := oI op_gt (fun i j => .bl (decide (j < i))) (fun _ _ _ _ => rfl) (fun _ _ _ => rfl) fun x y st h => by
  unfold aGt
  split
  · exact absurd ⟨rfl, rfl⟩ (h _ _)
  · rfl
theorem oGe : OpD X g W (compareOp .GtE) aGe := oI op_ge (fun i j => .bl (decide (j ≤ i))) (fun _ _ _ _ => rfl) (fun _ _ _ => rfl) fun x y st h => by
  unfold aGe
  split
  · exact absurd ⟨rfl, rfl⟩ (h _ _)
  · rfl
theorem oIsN : OpD X g W (compareOp .Is) aIsN := by
  refine ⟨_, op_isN, fun σ μ H st x y v u Q S rx ry h => ?_⟩
  unfold aIsN at h
  split at h
  · refine ⟨ry, ?_⟩
    rw [isNon_ok rx]
    exact h.here S _ rfl
  · exact h.elim
theorem oNotN : OpD X g W (compareOp .IsNot) aNotN := by
  refine ⟨_, op_notN, fun σ μ H st x y v u Q S rx ry h => ?_⟩
  unfold aNotN at h
  split at h
  · refine ⟨ry, ?_⟩
    rw [isNon_ok rx]
    exact h.here S _ rfl
  · exact h.elim
theorem oEq (O : Ok X g W k) : OpD X g W (compareOp .Eq) aEq := by
  refine ⟨_, op_eq.or (op_eqD O.hu), fun σ μ H st x y v u Q S rx ry h => ?_⟩
  unfold aEq at h
  split at h
  · rename_i ho
    have q := h.here S _ rfl
    unfold okEq at ho
    rw [Bool.or_eq_true] at ho
    rcases ho with ho | ho
    · rw [Bool.and_eq_true, Bool.and_eq_true] at ho
      obtain ⟨h1, h2⟩ := sc_eq ho.1.1 ho.1.2 ho.2 (norm_sc ho.1.1 rx) (norm_sc ho.1.2 ry)
      exact .inl ⟨h1, by rw [h2]; exact q⟩
    · simp only [Bool.and_eq_true, decide_eq_true_eq] at ho
      obtain ⟨⟨⟨d1, d2⟩, p1⟩, p2⟩ := ho
      refine .inr ?_
      rw [O.hK]
      refine ⟨_, _, norm_dp S d1 rx, norm_dp S d2 ry, ?_, ?_, ?_⟩
      · unfold SeqAt.shaped
        rw [py_can d1, py_dep, decide_eq_true p1] <;> rfl
      · unfold SeqAt.shaped
        rw [py_can d2, py_dep, decide_eq_true p2] <;> rfl
      · rw [py_eqv _ _ d1 d2]
        exact q
  · exact h.elim
theorem oNe (O : Ok X g W k) : OpD X g W (compareOp .NotEq) aNe := by
  refine ⟨_, op_ne.or (op_neD O.hu), fun σ μ H st x y v u Q S rx ry h => ?_⟩
  unfold aNe at h
  split at h
  · rename_i ho
    have q := h.here S _ rfl
    unfold okEq at ho
    rw [Bool.or_eq_true] at ho
    rcases ho with ho | ho
    · rw [Bool.and_eq_true, Bool.and_eq_true] at ho
      obtain ⟨h1, h2⟩ := sc_eq ho.1.1 ho.1.2 ho.2 (norm_sc ho.1.1 rx) (norm_sc ho.1.2 ry)
      exact .inl ⟨h1, by rw [h2]; exact q⟩
    · simp only [Bool.and_eq_true, decide_eq_true_eq] at ho
      obtain ⟨⟨⟨d1, d2⟩, p1⟩, p2⟩ := ho
      refine .inr ?_
      rw [O.hK]
      refine ⟨_, _, norm_dp S d1 rx, norm_dp S d2 ry, ?_, ?_, ?_⟩
      · unfold SeqAt.shaped
        rw [py_can d1, py_dep, decide_eq_true p1] <;> rfl
      · unfold SeqAt.shaped
        rw [py_can d2, py_dep, decide_eq_true p2] <;> rfl
      · rw [py_eqv _ _ d1 d2]
        exact q
  · exact h.elim
/-! ### unary -/
def dNeg (fa : DE) : DE := fun env st => (fa env st).bind fun x st => match x with
  | .int i => .ok (.int (-i)) st
  | _ => .bad
theorem pd_neg {a : Expr} {fa : DE} {pos : Pos} (ha : PD X g W a fa) : PD X g W (.UnaryOp .USub a pos) (dNeg fa) := PE.imp (pe_un un_neg ha) fun σ H Q ⟨μ, env, st, S, E, h⟩ => by
  refine bindE S E h fun μ1 H1 d st1 v L1 S1 E1 r1 h1 => ?_
  cases d with
  | int i => exact ⟨i, r1, h1.here S1 _ rfl⟩
  | _ => exact h1.elim
end
end G

namespace G
open PySem L2
/-! ### tests -/
section
variable {X : Cx} {g : GC} {W : WX} {k : Nat} {pos : Pos}
theorem pt_chain {a b c : Expr} {fa fb fc : DE} {op op' : CmpOp} {h h' : D → D → Store → R D} (ho : OpD X g W (compareOp op) h) (ho' : OpD X g W (compareOp op') h') (ha : PD X g W a fa) (hb : PD X g W b fb) (hc : PD X g W c fc)
    (hm : lastMarks [op, op'] [b, c] = false := by with_unfolding_all rfl) : PTD X g W (.Compare a [op, op'] [b, c] pos) (dB (dChain h h' fa fb fc)) := by
  obtain ⟨r, h1, h2⟩ := ho
  obtain ⟨r', h1', h2'⟩ := ho'
  exact PT.imp (L2.pt_chain h1 h1' ha hb hc hm) fun σ H Q q => dChain_ok h2 h2' (dB_ok q)
/-- an expression that gives True or False, as a test -/
theorem pt_b {e : Expr} {f : DE} (h : PD X g W e f) (he : ∀ whole, isTrue e X.env whole = (do let v ← whole; standAt e.pos; holding [v] (truthy v)) := by intro _; rfl) : PTD X g W e (dB f) :=
  PT.imp (pt_val h he) fun σ H Q q => dB_ok q
/-- the truth of a value -/
def truD (st : Store) : D → Option Bool
  | .non => some false
  | .bl b => some b
  | .int i => some (i != 0)
  | .str x => if x.length ≤ 16777216 then some ((x.length : Int) != 0) else none
  | .tup ds => some (!ds.isEmpty)
  | .lst ds => some (!ds.isEmpty)
  | .ref n => (lstAt st n).map fun ds => !ds.isEmpty
  | .scr ns => some (!ns.isEmpty)
  | _ => none
def dTru (f : DE) : DT := fun env st => (f env st).bind fun d st => match truD st d with
  | some b => .ok b st
  | none => .bad
theorem reps_emp {μ : Mp} {H : Hp} {ds : List D} {vs : List V} (r : Reps g μ H ds vs) : (!vs.isEmpty) = !ds.isEmpty := by
  cases ds with
  | nil => rw [show vs = [] from r] <;> rfl
  | cons d ds => obtain ⟨v, vr, e, _⟩ := r; rw [e] <;> rfl
theorem truD_ok {μ : Mp} {H : Hp} {st : Store} (S : RelS g μ H st) {d : D} {v : V} (r : Rep g μ H d v) {b : Bool} (h : truD st d = some b) : TruV g.K v H b := by
  cases d with
  | non => rw [show v = .non from r]; cases h; rfl
  | bl c => rw [show v = .bl c from r]; cases h; rfl
  | int i => rw [show v = .int i from r]; cases h; rfl
  | str x =>
    rw [show v = .str x from r]
    unfold truD at h
    by_cases hl : x.length ≤ 16777216
    · simp only [hl, if_true] at h
      cases h
      exact ⟨sizeLine_le hl, rfl⟩
    · simp only [hl, if_false] at h
      cases h
  | tup ds =>
    obtain ⟨a, vs, e, h1, r1⟩ := seqT_ok (ds := ds) r rfl
    cases h
    rw [e]
    exact .inr (.inl ⟨vs, h1, (reps_emp r1).symm⟩)
  | lst ds =>
    obtain ⟨a, vs, e, h1, r1⟩ := seqL_ok S (ds := ds) r rfl
    cases h
    rw [e]
    exact .inl ⟨vs, h1, (reps_emp r1).symm⟩
  | ref n =>
    cases q : lstAt st n with
    | none => simp only [truD, q] at h; cases h
    | some ds =>
      simp only [truD, q] at h
      cases h
      obtain ⟨a, vs, e, h1, r1⟩ := seqL_ok S (ds := ds) r q
      rw [e]
      exact .inl ⟨vs, h1, (reps_emp r1).symm⟩
  | scr ns =>
    obtain ⟨a, vs, e, h1, r1⟩ := seqL_ok S (ds := ns.map .int) r rfl
    cases h
    rw [e]
    refine .inl ⟨vs, h1, ?_⟩
    rw [reps_emp r1]
    cases ns <;> rfl
  | _ => cases h
theorem pt_tru {e : Expr} {f : DE} (O : Ok X g W k) (h : PD X g W e f) (he : ∀ whole, isTrue e X.env whole = (do let v ← whole; standAt e.pos; holding [v] (truthy v)) := by intro _; rfl) : PTD X g W e (dTru f) :=
  PT.imp (pt_truth h he) fun σ H Q ⟨μ, env, st, S, E, q⟩ => by
    refine bindE S E q fun μ1 H1 d st1 v L1 S1 E1 r1 h1 => ?_
    cases hb : truD st1 d with
    | none => rw [hb] at h1; exact h1.elim
    | some b =>
      rw [hb] at h1
      refine ⟨b, ?_, h1.here S1⟩
      rw [O.hK]
      exact truD_ok S1 r1 hb
def dNot (f : DT) : DT := fun env st => (f env st).bind fun b st => .ok (!b) st
theorem pt_not {a : Expr} {fa : DT} (ha : PTD X g W a fa) : PTD X g W (.UnaryOp .Not a pos) (dNot fa) := PT.imp (L2.pt_not ha) fun σ H Q ⟨μ, env, st, S, E, h⟩ => by
  exact bindT S E h fun μ1 H1 b st1 L1 S1 E1 h1 => h1.here S1
/-- a chain of and, or -/
def PWD (X : Cx) (g : GC) (W : WX) (e : Expr) (f : DT) : Prop := PW X e (tDT g W f)
def dAnd (fa fb : DT) : DT := fun env st => (fa env st).bind fun b st => if b = true then fb env st else .ok false st
def dOr (fa fb : DT) : DT := fun env st => (fa env st).bind fun b st => if b = true then .ok true st else fb env st
theorem pw_and1 {a : Expr} {fa : DT} (ha : PTD X g W a fa) : PWD X g W (.BoolOp .And [a] pos) fa := L2.pw_and1 ha
theorem pw_or1 {a : Expr} {fa : DT} (ha : PTD X g W a fa) : PWD X g W (.BoolOp .Or [a] pos) fa := L2.pw_or1 ha
theorem pw_and {a b : Expr} {rest : List Expr} {fa fb : DT} (ha : PTD X g W a fa) (hb : PWD X g W (.BoolOp .And (b :: rest) pos) fb) : PWD X g W (.BoolOp .And (a :: b :: rest) pos) (dAnd fa fb) :=
  PW.imp (L2.pw_and ha hb) fun σ H Q ⟨μ, env, st, S, E, h⟩ => by
    refine bindT S E h fun μ1 H1 b st1 L1 S1 E1 h1 => ?_
    cases b with
    | true => rw [if_pos rfl] at h1 ⊢; exact ⟨μ1, env, st1, S1, E1, h1⟩
    | false => rw [if_neg Bool.false_ne_true] at h1 ⊢; exact h1.here S1
theorem pw_or {a b : Expr} {rest : List Expr} {fa fb : DT} (ha : PTD X g W a fa) (hb : PWD X g W (.BoolOp .Or (b :: rest) pos) fb) : PWD X g W (.BoolOp .Or (a :: b :: rest) pos) (dOr fa fb) :=
  PW.imp (L2.pw_or ha hb) fun σ H Q ⟨μ, env, st, S, E, h⟩ => by
    refine bindT S E h fun μ1 H1 b st1 L1 S1 E1 h1 => ?_
    cases b with
    | true => rw [if_pos rfl] at h1 ⊢; exact h1.here S1
    | false => rw [if_neg Bool.false_ne_true] at h1 ⊢; exact ⟨μ1, env, st1, S1, E1, h1⟩
theorem pt_w {e : Expr} {f : DT} (h : PWD X g W e f) : PTD X g W e f := PW.pt h
/-- as values: True or False -/
def dAndV (fa fb : DE) : DE := fun env st => (fa env st).bind fun x st => match x with
  | .bl true => fb env st
  | .bl false => .ok (.bl false) st
  | _ => .bad
def dOrV (fa fb : DE) : DE := fun env st => (fa env st).bind fun x st => match x with
  | .bl true => .ok (.bl true) st
  | .bl false => fb env st
  | _ => .bad
def dNotV (fa : DE) : DE := fun env st => (fa env st).bind fun x st => match x with
  | .bl b => .ok (.bl (!b)) st
  | _ => .bad
theorem pd_one {op : BoolOp} {a : Expr} {fa : DE} (ha : PD X g W a fa) : PD X g W (.BoolOp op [a] pos) fa := pe_one ha
theorem pd_and {a b : Expr} {rest : List Expr} {fa fb : DE} (ha : PD X g W a fa) (hb : PD X g W (.BoolOp .And (b :: rest) pos) fb) : PD X g W (.BoolOp .And (a :: b :: rest) pos) (dAndV fa fb) :=
  PE.imp (pe_and ha hb) fun σ H Q ⟨μ, env, st, S, E, h⟩ => by
    refine bindE S E h fun μ1 H1 d st1 v L1 S1 E1 r1 h1 => ?_
    cases d with
    | bl c =>
      refine ⟨c, r1, ?_⟩
      cases c with
      | true => rw [if_pos rfl]; exact ⟨μ1, env, st1, S1, E1, h1⟩
      | false => rw [if_neg Bool.false_ne_true]; exact (show Post g W σ μ1 H1 (.ok (.bl false) st1) (VP g Q) from h1).here S1 _ rfl
    | _ => exact h1.elim
theorem pd_or {a b : Expr} {rest : List Expr} {fa fb : DE} (ha : PD X g W a fa) (hb : PD X g W (.BoolOp .Or (b :: rest) pos) fb) : PD X g W (.BoolOp .Or (a :: b :: rest) pos) (dOrV fa fb) :=
  PE.imp (pe_or ha hb) fun σ H Q ⟨μ, env, st, S, E, h⟩ => by
    refine bindE S E h fun μ1 H1 d st1 v L1 S1 E1 r1 h1 => ?_
    cases d with
    | bl c =>
      refine ⟨c, r1, ?_⟩
      cases c with
      | true => rw [if_pos rfl]; exact (show Post g W σ μ1 H1 (.ok (.bl true) st1) (VP g Q) from h1).here S1 _ rfl
      | false => rw [if_neg Bool.false_ne_true]; exact ⟨μ1, env, st1, S1, E1, h1⟩
    | _ => exact h1.elim
theorem pd_not {a : Expr} {fa : DE} (ha : PD X g W a fa) : PD X g W (.UnaryOp .Not a pos) (dNotV fa) := PE.imp (pe_not ha) fun σ H Q ⟨μ, env, st, S, E, h⟩ => by
  refine bindE S E h fun μ1 H1 d st1 v L1 S1 E1 r1 h1 => ?_
  cases d with
  | bl c => exact ⟨c, r1, h1.here S1 _ rfl⟩
  | _ => exact h1.elim
/-- a if t else b -/
def dIf (ft : DT) (fa fb : DE) : DE := fun env st => (ft env st).bind fun b st => if b = true then fa env st else fb env st
theorem pd_if {c a b : Expr} {ft : DT} {fa fb : DE} (hc : PTD X g W c ft) (ha : PD X g W a fa) (hb : PD X g W b fb) : PD X g W (.IfExp c a b pos) (dIf ft fa fb) := PE.imp (pe_ifExp hc ha hb) fun σ H Q ⟨μ, env, st, S, E, h⟩ => by
  refine bindT S E h fun μ1 H1 b st1 L1 S1 E1 h1 => ?_
  cases b with
  | true => rw [if_pos rfl] at h1 ⊢; exact ⟨μ1, env, st1, S1, E1, h1⟩
  | false => rw [if_neg Bool.false_ne_true] at h1 ⊢; exact ⟨μ1, env, st1, S1, E1, h1⟩

/-! ### arguments, displays -/
def dNil : DA := fun _ st => .ok [] st
def dCons (fa : DE) (fr : DA) : DA := fun env st => (fa env st).bind fun d st => (fr env st).bind fun ds st => .ok (d :: ds) st
theorem pa_nil : PAD X g W [] dNil := PA.imp L2.pa_nil fun σ H Q ⟨μ, env, st, S, E, h⟩ => h.here S _ rfl
theorem pa_cons {e : Expr} {es : List Expr} {fa : DE} {fr : DA} (ha : PD X g W e fa) (hr : PAD X g W es fr) (hs : starEach (e :: es) X.env = (false, eval e X.env) :: starEach es X.env := by rfl) : PAD X g W (e :: es) (dCons fa fr) :=
  PA.imp (L2.pa_cons ha hr hs) fun σ H Q ⟨μ, env, st, S, E, h⟩ => by
    refine bindE S E h fun μ1 H1 d st1 v L1 S1 E1 r1 h1 => ?_
    refine bindA S1 E1 h1 fun μ2 H2 ds st2 vs L2 S2 E2 r2 h2 => ?_
    exact h2.here S2 _ ⟨v, vs, rfl, r1.le L2, r2⟩
def dTup (fa : DA) : DE := fun env st => (fa env st).bind fun ds st => if ds.length ≤ 16777216 then .ok (.tup ds) st else .bad
def dLst (b : Bool) (fa : DA) : DE := fun env st => (fa env st).bind fun ds st => if ds.length ≤ 16777216 then mkL b ds st else .bad
theorem pd_tup {es : List Expr} {fa : DA} {x1} (ha : PAD X g W es fa) : PD X g W (.Tuple es x1 pos) (dTup fa) := PE.imp (pe_tup ha) fun σ H Q ⟨μ, env, st, S, E, h⟩ => by
  refine bindA S E h fun μ1 H1 ds st1 vs L1 S1 E1 r1 h1 => ?_
  split at h1
  · rename_i hl
    exact ⟨sizeLine_le (by rw [← r1.len]; exact hl), fun p hp => mkT_ok S1 r1 h1 hp⟩
  · exact h1.elim
theorem pd_lst (b : Bool) {es : List Expr} {fa : DA} (ha : PAD X g W es fa) : PD X g W (.List es pos) (dLst b fa) := PE.imp (pe_lst ha) fun σ H Q ⟨μ, env, st, S, E, h⟩ => by
  refine bindA S E h fun μ1 H1 ds st1 vs L1 S1 E1 r1 h1 => ?_
  split at h1
  · rename_i hl
    exact ⟨sizeLine_le (by rw [← r1.len]; exact hl), fun p hp => mkL_ok S1 r1 h1 hp⟩
  · exact h1.elim

/-! ### subscripts, slices -/
theorem at_ok {μ : Mp} {H : Hp} {ds : List D} {vs : List V} (r : Reps g μ H ds vs) {i : Int} {d : D} (h : atI ds i = some d) : ∃ v, atI vs i = some v ∧ Rep g μ H d v := by
  unfold atI at h ⊢
  rw [← r.len]
  cases e : ixN ds.length i with
  | none => rw [e] at h; cases h
  | some j =>
    rw [e] at h
    exact r.get h
def aIx : D → D → Store → R D
  | .str x, .int i, st => if x.length ≤ 16777216 then (match atI x.cps.toList i with
    | some c => .ok (.str ⟨#[c]⟩) st
    | none => .bad) else .bad
  | x, .int i, st => match seqA st x with
    | some ds => (match atI ds i with
      | some d => .ok d st
      | none => .bad)
    | none => .bad
  | _, _, _ => .bad
theorem pd_ix {a b : Expr} {fa fb : DE} (O : Ok X g W k) (ha : PD X g W a fa) (hb : PD X g W b fb) (hs : PlainIx b := by intro _ _; rfl) : PD X g W (.Subscript a b pos) (dBin aIx fa fb) := by
  refine PE.imp (pe_ix ix_seq ha hb hs) fun σ H Q q => dBin_tOp (fun σ μ H st x y v u Q S rx ry h => ?_) q
  unfold aIx at h
  split at h
  · rename_i x i
    split at h
    · rename_i hl
      split at h
      · rename_i c hc
        exact .inr (.inr ⟨x, i, c, rx, ry, sizeLine_le hl, hc, h.here S _ rfl⟩)
      · exact h.elim
    · exact h.elim
  · split at h
    · rename_i ds hq
      split at h
      · rename_i d hd
        obtain ⟨a, vs, e, h1, r1⟩ := seqA_ok S rx hq
        obtain ⟨w, h2, r2⟩ := at_ok r1 hd
        rw [O.hK]
        rcases h1 with h1 | h1
        · exact .inl ⟨a, vs, _, w, e, ry, h1, h2, h.here S _ r2⟩
        · exact .inr (.inl ⟨a, vs, _, w, e, ry, h1, h2, h.here S _ r2⟩)
      · exact h.elim
    · exact h.elim
  · exact h.elim
abbrev DO := Env → Store → R (Option Int)
def POD (X : Cx) (g : GC) (W : WX) (e : Option Expr) (f : DO) : Prop := PO X e (fun σ H Q => ∃ μ env st, RelS g μ H st ∧ RelE g μ H env σ ∧ Post g W σ μ H (f env st) (fun _ H' o _ => Q o H'))
theorem PO.imp {X : Cx} {e : Option Expr} {t t' : TO} (h : PO X e t) (hi : ∀ σ H Q, t' σ H Q → t σ H Q) : PO X e t' := ⟨fun pins s σ H Q I q => h.run pins s σ H Q I (hi _ _ _ q)⟩
def dNoP : DO := fun _ st => .ok none st
def dP (f : DE) : DO := fun env st => (f env st).bind fun d st => match d with
  | .int i => .ok (some i) st
  | _ => .bad
theorem po_none : POD X g W none dNoP := PO.imp L2.po_none fun σ H Q ⟨μ, env, st, S, E, h⟩ => h.here S
theorem po_some {e : Expr} {f : DE} (h : PD X g W e f) : POD X g W (some e) (dP f) := PO.imp (L2.po_some h) fun σ H Q ⟨μ, env, st, S, E, h⟩ => by
  refine bindE S E h fun μ1 H1 d st1 v L1 S1 E1 r1 h1 => ?_
  cases d with
  | int i => exact ⟨i, r1, h1.here S1⟩
  | _ => exact h1.elim
def cutD (xs : List D) (lo hi : Option Int) : List D := (xs.drop (HT.sIx xs.length 0 lo)).take (HT.sIx xs.length xs.length hi - HT.sIx xs.length 0 lo)
theorem cut_ok {μ : Mp} {H : Hp} {ds : List D} {vs : List V} (r : Reps g μ H ds vs) (lo hi : Option Int) : Reps g μ H (cutD ds lo hi) (cutV vs lo hi) := by
  unfold cutD cutV
  rw [← r.len]
  exact (r.drop _).take _
def aSl (b : Bool) : D → Option Int → Option Int → Store → R D
  | .str x, lo, hi, st => if x.length ≤ 16777216 then .ok (.str (cutS x lo hi)) st else .bad
  | .tup ds, lo, hi, st => .ok (.tup (cutD ds lo hi)) st
  | x, lo, hi, st => match seqL st x with
    | some ds => mkL b (cutD ds lo hi) st
    | none => .bad
theorem cut_all {xs : List D} {lo hi : Option Int} (h : HT.sIx xs.length 0 lo = 0 ∧ HT.sIx xs.length xs.length hi = xs.length) : cutD xs lo hi = xs := by
  unfold cutD
  rw [h.1, h.2, List.drop_zero]
  exact List.take_length
def dSl (b : Bool) (fa : DE) (fl fh : DO) : DE := fun env st => (fa env st).bind fun d st => (fl env st).bind fun l st => (fh env st).bind fun h st => aSl b d l h st
theorem bindO {β : Type} {σ : L2.St} {μ : Mp} {H : Hp} {env : Env} {st : Store} {P : Mp → Hp → β → Store → Prop} {f : DO} {q : Option Int → Store → R β} (S : RelS g μ H st) (E : RelE g μ H env σ) (h : Post g W σ μ H ((f env st).bind q) P) {Rest : Option Int → Hp → Prop}
    (hk : ∀ μ1 H1 d st1, Le μ H μ1 H1 → RelS g μ1 H1 st1 → RelE g μ1 H1 env σ → Post g W σ μ1 H1 (q d st1) P → Rest d H1) : ∃ μ env st, RelS g μ H st ∧ RelE g μ H env σ ∧ Post g W σ μ H (f env st) (fun _ H' o _ => Rest o H') := by
  refine ⟨μ, env, st, S, E, ?_⟩
  generalize f env st = r at h ⊢
  cases r with
  | ok d st1 => exact fun μ1 H1 L S1 => hk μ1 H1 d st1 L S1 (E.le L) (Post.le L h)
  | ex c st1 => exact h
  | bad => exact h
theorem pd_slice (b : Bool) {e : Expr} {lo hi : Option Expr} {p2 : Pos} {fa : DE} {fl fh : DO} (O : Ok X g W k) (ha : PD X g W e fa) (hl : POD X g W lo fl) (hh : POD X g W hi fh) : PD X g W (.Subscript e (.Slice lo hi none p2) pos) (dSl b fa fl fh) :=
  PE.imp (pe_slice ((sl_list.or sl_tupA).or sl_str) ha hl hh) fun σ H Q ⟨μ, env, st, S, E, h⟩ => by
    refine bindE S E h fun μ1 H1 d st1 v L1 S1 E1 r1 h1 => ?_
    refine bindO S1 E1 h1 fun μ2 H2 lo st2 L2 S2 E2 h2 => ?_
    refine bindO S2 E2 h2 fun μ3 H3 hi st3 L3 S3 E3 h3 => ?_
    have r3 := (r1.le L2).le L3
    unfold aSl at h3
    split at h3
    · rename_i x
      split at h3
      · rename_i hz
        exact .inr ⟨x, r3, sizeLine_le hz, h3.here S3 _ rfl⟩
      · exact h3.elim
    · rename_i ds
      obtain ⟨a, vs, e, q1, q2⟩ := seqT_ok r3 rfl
      refine .inl (.inr ?_)
      rw [O.hK]
      refine ⟨a, vs, e, q1, fun z => ?_, fun _ p hp => mkT_ok S3 (cut_ok q2 lo hi) h3 hp⟩
      rw [← q2.len] at z
      rw [cut_all z] at h3
      rw [← e]
      exact h3.here S3 _ r3
    · split at h3
      · rename_i ds hq
        obtain ⟨a, vs, e, q1, q2⟩ := seqL_ok S3 r3 hq
        refine .inl (.inl ?_)
        rw [O.hK]
        exact ⟨a, vs, e, q1, fun p hp => mkL_ok S3 (cut_ok q2 lo hi) h3 hp⟩
      · exact h3.elim

/-! ### calls of defs -/
/-- the promise of a def that computes f -/
def spD (g : GC) (n : Nat) (f : List D → Store → R D) : Sp := fun vs H Q E => vs.length = n ∧ ∃ μ st ds, RelS g μ H st ∧ Reps g μ H ds vs ∧ Post g (fun c d _ H => E c d H) [] μ H (f ds st) (VP g Q)
/-- the def x of n parameters computes f, at most k calls deep -/
def FnD (P : Program) (w : World) (mg : Str → Option Value) (base : Heap) (g : GC) (k : Nat) (x : Str) (n : Nat) (f : List D → Store → R D) : Prop :=
  ∃ (fa : Addr) (fd : FuncData) (ps : List Str), mg x = some (.ref fa) ∧ PySem.W.keepIn g.K (.ref fa) = true ∧ Binds g.K fd ps [] ∧ FnOk P w g.K mg base (L2.CX P w) k fa fd ps (spD g n f)
def dCall (f : List D → Store → R D) (fa : DA) : DE := fun env st => (fa env st).bind fun ds st => f ds st
theorem pd_call {x : Str} {p : Pos} {n j : Nat} {e : Expr} {es : List Expr} {f : List D → Store → R D} {fa : DA} (O : Ok X g W k) (F : FnD X.prog X.w X.mg X.base g j x n f) (hj : j ≤ k) (ha : PAD X g W (e :: es) fa) (hn : ∀ env st ds st', fa env st = .ok ds st' → ds.length = n) (hg : Gl X x := by rfl)
    (hdb : (x == ("__debug__" : Str)) = false := by decide) (he : starEach (e :: es) X.env = (false, eval e X.env) :: starEach es X.env := by rfl) (hpl : (backTo pos (starEach es X.env)).any (·.1) = false := by rfl) : PD X g W (.Call (.Name x p) (e :: es) [] pos) (dCall f fa) := by
  obtain ⟨fA, fd, ps, h1, h2, h3, h4⟩ := F
  rw [← O.hK] at h2 h3 h4
  refine PE.imp (pe_callS h4 (O.room.mono hj) hg h1 h2 h3 (fun σ => passAt O.tk σ) ha hdb he hpl) fun σ H Q ⟨μ, env, st, S, E, h⟩ => ?_
  have hn := hn env st
  refine ⟨μ, env, st, S, E, ?_⟩
  unfold dCall at h
  generalize fa env st = r at h hn ⊢
  cases r with
  | ok ds st1 => exact fun μ1 H1 L S1 vs rv => ⟨by rw [← rv.len]; exact hn ds st1 rfl, μ1, st1, ds, S1, rv, by
    have q := Post.le L h
    have q : Post g W σ μ1 H1 (f ds st1) (VP g Q) := q
    generalize f ds st1 = r at q ⊢
    cases r with
    | ok d st2 => exact q
    | ex c st2 => exact q
    | bad => exact q⟩
  | ex c st1 => exact h
  | bad => exact h
theorem len_nil_ {env : Env} {st st' : Store} {ds : List D} (h : dNil env st = .ok ds st') : ds.length = 0 := by cases h; rfl
theorem len_cons_ {fa : DE} {fr : DA} {n : Nat} (hr : ∀ env st ds st', fr env st = .ok ds st' → ds.length = n) : ∀ env st ds st', dCons fa fr env st = .ok ds st' → ds.length = n + 1 := fun env st ds st' h => by
  unfold dCons at h
  generalize fa env st = r at h
  cases r with
  | ok d st1 =>
    have h : (fr env st1).bind (fun ds st => R.ok (d :: ds) st) = .ok ds st' := h
    cases q : fr env st1 with
    | ok ds2 st2 =>
      rw [q] at h
      cases h
      rw [List.length_cons, hr _ _ _ _ q]
    | ex c st2 => rw [q] at h; cases h
    | bad => rw [q] at h; cases h
  | ex c st1 => cases h
  | bad => cases h
end
end G

namespace G
open PySem L2
/-! ### statements -/
inductive SR where
  | nx (env : Env) (st : Store) | rt (d : D) (st : Store) | bk (env : Env) (st : Store) | ct (env : Env) (st : Store) | ex (c : Str) (env : Env) (st : Store) | bad
abbrev DS := Env → Store → SR
def PostS (g : GC) (W : WX) (μ : Mp) (H : Hp) (r : SR) (Dn : Ends) : Prop := match r with
  | .nx env st => ∀ μ' H' σ', Le μ H μ' H' → RelS g μ' H' st → RelE g μ' H' env σ' → Dn.nx σ' H'
  | .rt d st => ∀ μ' H' v, Le μ H μ' H' → RelS g μ' H' st → Rep g μ' H' d v → Dn.rt v H'
  | .bk env st => ∀ μ' H' σ', Le μ H μ' H' → RelS g μ' H' st → RelE g μ' H' env σ' → Dn.bk σ' H'
  | .ct env st => ∀ μ' H' σ', Le μ H μ' H' → RelS g μ' H' st → RelE g μ' H' env σ' → Dn.ct σ' H'
  | .ex c env st => ∀ μ' H' σ', Le μ H μ' H' → RelS g μ' H' st → RelE g μ' H' env σ' → W (.ref (g.ga c)) none σ' H'
  | .bad => False
def tDS (g : GC) (W : WX) (f : DS) : TS := fun Dn σ H => ∃ μ env st, RelS g μ H st ∧ RelE g μ H env σ ∧ PostS g W μ H (f env st) Dn
def PSD (X : Cx) (g : GC) (W : WX) (s : Stmt) (f : DS) : Prop := PS X s (tDS g W f)
def PSsD (X : Cx) (g : GC) (W : WX) (s : List Stmt) (f : DS) : Prop := PSs X s (tDS g W f)
def R.s {α : Type} (r : R α) (env : Env) (k : α → Store → SR) : SR := match r with
  | .ok a st => k a st
  | .ex c st => .ex c env st
  | .bad => .bad
@[simp] theorem R.s_ok {α : Type} (a : α) (st : Store) (env : Env) (k : α → Store → SR) : (R.ok a st).s env k = k a st := rfl
@[simp] theorem R.s_ex {α : Type} (c : Str) (st : Store) (env : Env) (k : α → Store → SR) : (R.ex c st : R α).s env k = .ex c env st := rfl
@[simp] theorem R.s_bad {α : Type} (env : Env) (k : α → Store → SR) : (R.bad : R α).s env k = .bad := rfl
section
variable {g : GC} {W : WX} {μ μ1 : Mp} {H H1 : Hp} {r : SR} {Dn Dn' : Ends}
theorem PostS.le (L : Le μ H μ1 H1) (h : PostS g W μ H r Dn) : PostS g W μ1 H1 r Dn := by
  cases r with
  | nx env st => exact fun μ' H' σ' L' => h μ' H' σ' (L.trans L')
  | rt d st => exact fun μ' H' v L' => h μ' H' v (L.trans L')
  | bk env st => exact fun μ' H' σ' L' => h μ' H' σ' (L.trans L')
  | ct env st => exact fun μ' H' σ' L' => h μ' H' σ' (L.trans L')
  | ex c env st => exact fun μ' H' σ' L' => h μ' H' σ' (L.trans L')
  | bad => exact h
variable {σ : L2.St} {env : Env} {st : Store}
theorem sE {f : DE} {k : D → Store → SR} (S : RelS g μ H st) (E : RelE g μ H env σ) (h : PostS g W μ H ((f env st).s env k) Dn) {Rest : VK}
    (hk : ∀ μ1 H1 d st1 v, Le μ H μ1 H1 → RelS g μ1 H1 st1 → RelE g μ1 H1 env σ → Rep g μ1 H1 d v → PostS g W μ1 H1 (k d st1) Dn → Rest v H1) : tDE g W f σ H Rest := by
  refine ⟨μ, env, st, S, E, ?_⟩
  generalize f env st = r at h ⊢
  cases r with
  | ok d st1 => exact fun μ1 H1 L S1 v rv => hk μ1 H1 d st1 v L S1 (E.le L) rv (PostS.le L h)
  | ex c st1 => exact fun μ1 H1 L S1 => h μ1 H1 σ L S1 (E.le L)
  | bad => exact h
theorem sT {f : DT} {k : Bool → Store → SR} (S : RelS g μ H st) (E : RelE g μ H env σ) (h : PostS g W μ H ((f env st).s env k) Dn) {Rest : Bool → Hp → Prop}
    (hk : ∀ μ1 H1 b st1, Le μ H μ1 H1 → RelS g μ1 H1 st1 → RelE g μ1 H1 env σ → PostS g W μ1 H1 (k b st1) Dn → Rest b H1) : tDT g W f σ H Rest := by
  refine ⟨μ, env, st, S, E, ?_⟩
  generalize f env st = r at h ⊢
  cases r with
  | ok d st1 => exact fun μ1 H1 L S1 => hk μ1 H1 d st1 L S1 (E.le L) (PostS.le L h)
  | ex c st1 => exact fun μ1 H1 L S1 => h μ1 H1 σ L S1 (E.le L)
  | bad => exact h
theorem sA {f : DA} {k : List D → Store → SR} (S : RelS g μ H st) (E : RelE g μ H env σ) (h : PostS g W μ H ((f env st).s env k) Dn) {Rest : List V → Hp → Prop}
    (hk : ∀ μ1 H1 ds st1 vs, Le μ H μ1 H1 → RelS g μ1 H1 st1 → RelE g μ1 H1 env σ → Reps g μ1 H1 ds vs → PostS g W μ1 H1 (k ds st1) Dn → Rest vs H1) : tDA g W f σ H Rest := by
  refine ⟨μ, env, st, S, E, ?_⟩
  generalize f env st = r at h ⊢
  cases r with
  | ok d st1 => exact fun μ1 H1 L S1 vs rv => hk μ1 H1 d st1 vs L S1 (E.le L) rv (PostS.le L h)
  | ex c st1 => exact fun μ1 H1 L S1 => h μ1 H1 σ L S1 (E.le L)
  | bad => exact h
end
section
variable {X : Cx} {g : GC} {W : WX} {k : Nat} {pos : Pos}
def dNext : DS := fun env st => .nx env st
def dSeq (f h : DS) : DS := fun env st => match f env st with
  | .nx env st => h env st
  | r => r
theorem ss_nil : PSsD X g W [] dNext := PSs.imp pss_nil fun Dn σ H ⟨μ, env, st, S, E, h⟩ => h μ H σ Le.refl S E
theorem seq_ok {f h : DS} {Dn : Ends} {σ : L2.St} {H : Hp} (q : tDS g W (dSeq f h) Dn σ H) : tSeq (tDS g W f) (tDS g W h) Dn σ H := by
  obtain ⟨μ, env, st, S, E, q⟩ := q
  refine ⟨μ, env, st, S, E, ?_⟩
  unfold dSeq at q
  generalize f env st = r at q ⊢
  cases r with
  | nx env1 st1 => exact fun μ1 H1 σ1 L S1 E1 => ⟨μ1, env1, st1, S1, E1, PostS.le L q⟩
  | rt d st => exact q
  | bk env st => exact q
  | ct env st => exact q
  | ex c env st => exact q
  | bad => exact q
theorem ss_cons {st : Stmt} {rest : List Stmt} {f h : DS} (h1 : PSD X g W st f) (h2 : PSsD X g W rest h) : PSsD X g W (st :: rest) (dSeq f h) := PSs.imp (pss_cons h1 h2) fun Dn σ H q => seq_ok q
theorem ss_one {st : Stmt} {f : DS} (h1 : PSD X g W st f) : PSsD X g W [st] f := pss_one h1
def dBreak : DS := fun env st => .bk env st
def dCont : DS := fun env st => .ct env st
theorem s_pass : PSD X g W (.Pass pos) dNext := PS.imp ps_pass fun Dn σ H ⟨μ, env, st, S, E, h⟩ => h μ H σ Le.refl S E
theorem s_break : PSD X g W (.Break pos) dBreak := PS.imp ps_break fun Dn σ H ⟨μ, env, st, S, E, h⟩ => h μ H σ Le.refl S E
theorem s_cont : PSD X g W (.Continue pos) dCont := PS.imp ps_continue fun Dn σ H ⟨μ, env, st, S, E, h⟩ => h μ H σ Le.refl S E
def dDrop (f : DE) : DS := fun env st => (f env st).s env fun _ st => .nx env st
theorem s_expr {e : Expr} {f : DE} (h : PD X g W e f) (hs : swapsWith e none pos.line X.env = pure false := by rfl) : PSD X g W (.Expr e pos) (dDrop f) := PS.imp (ps_expr h hs) fun Dn σ H ⟨μ, env, st, S, E, q⟩ =>
  sE S E q fun μ1 H1 d st1 v L S1 E1 r1 h1 => h1 μ1 H1 σ Le.refl S1 E1
def dRet (f : DE) : DS := fun env st => (f env st).s env fun d st => .rt d st
theorem s_ret {e : Expr} {f : DE} (h : PD X g W e f) : PSD X g W (.Return (some e) pos) (dRet f) := PS.imp (ps_ret h) fun Dn σ H ⟨μ, env, st, S, E, q⟩ =>
  sE S E q fun μ1 H1 d st1 v L S1 E1 r1 h1 => h1 μ1 H1 v Le.refl S1 r1
def dRetN : DS := fun _ st => .rt .non st
theorem s_retN : PSD X g W (.Return none pos) dRetN := PS.imp ps_retN fun Dn σ H ⟨μ, env, st, S, E, q⟩ => q μ H .non Le.refl S rfl
def dIfS (c : DT) (f h : DS) : DS := fun env st => (c env st).s env fun b st => if b = true then f env st else h env st
theorem s_if {c : Expr} {a b : List Stmt} {fc : DT} {f h : DS} (hc : PTD X g W c fc) (ha : PSsD X g W a f) (hb : PSsD X g W b h) : PSD X g W (.If c a b pos) (dIfS fc f h) := PS.imp (ps_if hc ha hb) fun Dn σ H ⟨μ, env, st, S, E, q⟩ =>
  sT S E q fun μ1 H1 b st1 L S1 E1 h1 => by
    cases b with
    | true => rw [if_pos rfl] at h1 ⊢; exact ⟨μ1, env, st1, S1, E1, h1⟩
    | false => rw [if_neg Bool.false_ne_true] at h1 ⊢; exact ⟨μ1, env, st1, S1, E1, h1⟩

/-! ### targets -/
abbrev DG := D → Env → Option Env
abbrev DGs := List D → Env → Option Env
/-- the same but at these slots -/
def But (is : List Nat) (σ σ' : L2.St) : Prop := σ'.length = σ.length ∧ ∀ j, j ∉ is → σ'[j]? = σ[j]?
theorem But.refl {is : List Nat} {σ : L2.St} : But is σ σ := ⟨rfl, fun _ _ => rfl⟩
theorem But.app {is js : List Nat} {σ σ' σ'' : L2.St} (a : But is σ σ') (b : But js σ' σ'') : But (is ++ js) σ σ'' := ⟨b.1.trans a.1, fun j h => by
  simp only [List.mem_append, not_or] at h
  exact (b.2 j h.2).trans (a.2 j h.1)⟩
def tDG (g : GC) (is : List Nat) (f : DG) : TG := fun v σ H Q => ∃ μ env st d, RelS g μ H st ∧ RelE g μ H env σ ∧ Rep g μ H d v ∧ ∃ env', f d env = some env' ∧ ∀ σ', RelE g μ H env' σ' → But is σ σ' → Q σ' H
def tDGs (g : GC) (is : List Nat) (f : DGs) : TGs := fun vs σ H Q => ∃ μ env st ds, RelS g μ H st ∧ RelE g μ H env σ ∧ Reps g μ H ds vs ∧ ∃ env', f ds env = some env' ∧ ∀ σ', RelE g μ H env' σ' → But is σ σ' → Q σ' H
def PGD (X : Cx) (g : GC) (e : Expr) (is : List Nat) (f : DG) : Prop := PG X e (tDG g is f)
def PGsD (X : Cx) (g : GC) (es : List Expr) (is : List Nat) (f : DGs) : Prop := PGs X es (tDGs g is f)
theorem PG.imp {X : Cx} {e : Expr} {t t' : TG} (h : PG X e t) (hi : ∀ v σ H Q, t' v σ H Q → t v σ H Q) : PG X e t' := ⟨fun pins s σ H v u Q I r q => h.run pins s σ H v u Q I r (hi _ _ _ _ q)⟩
theorem PGs.imp {X : Cx} {e : List Expr} {t t' : TGs} (h : PGs X e t) (hi : ∀ v σ H Q, t' v σ H Q → t v σ H Q) : PGs X e t' := ⟨fun pins s σ H v u Q I r q => h.run pins s σ H v u Q I r (hi _ _ _ _ q)⟩
def dgName (i : Nat) : DG := fun d env => some (env.set i (some d))
theorem g_name (i : Nat) {x : Str} (O : Ok X g W k) (hi : X.N[i]? = some x := by rfl) (hx : Loc X.env.scope x := by first | exact .inl rfl | exact .inr rfl) (hf : X.fn x = true ∨ X.env.scope.names.lookup x = some .local := by first | exact .inl rfl | exact .inr rfl) : PGD X g (.Name x pos) [i] (dgName i) :=
  PG.imp (pg_name O.nd hi hx hf) fun v σ H Q ⟨μ, env, st, d, S, E, r, env', e, q⟩ => by
    cases e
    exact q _ (E.set i r) ⟨List.length_set, fun j h => List.getElem?_set_ne fun z => h (by simp [z])⟩
def dgNil : DGs := fun ds env => match ds with
  | [] => some env
  | _ => none
def dgCons (f : DG) (h : DGs) : DGs := fun ds env => match ds with
  | [] => none
  | d :: ds => (f d env).bind fun env => h ds env
theorem gs_nil : PGsD X g [] [] dgNil := PGs.imp pgs_nil fun vs σ H Q ⟨μ, env, st, ds, S, E, r, env', e, q⟩ => by
  cases ds with
  | nil => cases e; exact ⟨r, q σ E But.refl⟩
  | cons d ds => cases e
theorem gs_cons {e : Expr} {es : List Expr} {is js : List Nat} {f : DG} {h : DGs} (h1 : PGD X g e is f) (h2 : PGsD X g es js h) (hs : (assignEach (e :: es) X.env).map (·.2) = assign e X.env :: (assignEach es X.env).map (·.2) := by rfl) : PGsD X g (e :: es) (is ++ js) (dgCons f h) :=
  PGs.imp (pgs_cons h1 h2 hs) fun vs σ H Q ⟨μ, env, st, ds, S, E, r, env', e, q⟩ => by
    cases ds with
    | nil => cases e
    | cons d ds =>
      obtain ⟨v, vr, e1, r1, r2⟩ := r
      have e : (f d env).bind (fun env => h ds env) = some env' := e
      cases q1 : f d env with
      | none => rw [q1] at e; cases e
      | some env1 =>
        rw [q1] at e
        exact ⟨v, vr, e1, μ, env, st, d, S, E, r1, env1, q1, fun σ' E' b1 => ⟨μ, env1, st, ds, S, E', r2, env', e, fun σ2 E2 b2 => q σ2 E2 (b1.app b2)⟩⟩
def dgTup (n : Nat) (h : DGs) : DG := fun d env => match d with
  | .tup ds => if ds.length = n then h ds env else none
  | _ => none
theorem g_tup {es : List Expr} {kk n : Nat} {is : List Nat} {h : DGs} (O : Ok X g W k) (hh : PGsD X g es is h) (hn : (assignEach es X.env).length = n := by rfl) (hst : (assignEach es X.env).findIdx? (·.1) = none := by rfl) : PGD X g (.Tuple es kk pos) is (dgTup n h) :=
  PG.imp (pg_tup O.calm hh hn hst) fun v σ H Q ⟨μ, env, st, d, S, E, r, env', e, q⟩ => by
    unfold dgTup at e
    split at e
    · rename_i ds
      split at e
      · rename_i hl
        obtain ⟨a, vs, e1, h1, r1⟩ := seqT_ok r rfl
        rw [O.hK]
        exact ⟨a, vs, e1, h1, by rw [← r1.len]; exact hl, μ, env, st, ds, S, E, r1, env', e, q⟩
      · cases e
    · cases e
/-- .. of a list -/
def dgLst (n : Nat) (h : DGs) : DG := fun d env => match d with
  | .lst ds => if ds.length = n then h ds env else none
  | _ => none
theorem g_lst {es : List Expr} {kk n : Nat} {is : List Nat} {h : DGs} (O : Ok X g W k) (hh : PGsD X g es is h) (hn : (assignEach es X.env).length = n := by rfl) (hst : (assignEach es X.env).findIdx? (·.1) = none := by rfl) : PGD X g (.Tuple es kk pos) is (dgLst n h) :=
  PG.imp (pg_lst O.calm hh hn hst) fun v σ H Q ⟨μ, env, st, d, S, E, r, env', e, q⟩ => by
    unfold dgLst at e
    split at e
    · rename_i ds
      split at e
      · rename_i hl
        obtain ⟨a, vs, e1, h1, r1⟩ := seqL_ok S (ds := ds) r rfl
        rw [O.hK]
        exact ⟨a, vs, e1, h1, by rw [← r1.len]; exact hl, μ, env, st, ds, S, E, r1, env', e, q⟩
      · cases e
    · cases e

/-! ### stores -/
def dAsg (f : DE) (gt : DG) : DS := fun env st => (f env st).s env fun d st => match gt d env with
  | some env => .nx env st
  | none => .bad
theorem asg_ok {f : DE} {is : List Nat} {gt : DG} {Dn : Ends} {σ : L2.St} {H : Hp} (q : tDS g W (dAsg f gt) Dn σ H) : tAsg (tDE g W f) (tDG g is gt) Dn σ H := by
  obtain ⟨μ, env, st, S, E, q⟩ := q
  refine sE S E q fun μ1 H1 d st1 v L S1 E1 r1 h1 => ?_
  cases e : gt d env with
  | none => rw [e] at h1; exact h1.elim
  | some env1 =>
    rw [e] at h1
    exact ⟨μ1, env, st1, d, S1, E1, r1, env1, e, fun σ' E' _ => h1 μ1 H1 σ' Le.refl S1 E'⟩
theorem s_asg {tg e : Expr} {f : DE} {is : List Nat} {gt : DG} (he : PD X g W e f) (hg : PGD X g tg is gt) (hs : swapsWithSole [tg] e pos.line X.env = pure false := by rfl) (hw : swappedStores [tg] e X.env = pure none := by rfl)
    (h1 : (assignEach [tg] X.env).map (·.2) = [assign tg X.env] := by rfl) : PSD X g W (.Assign [tg] e pos) (dAsg f gt) := PS.imp (ps_asg he hg hs hw h1) fun Dn σ H q => asg_ok q
/-- a, b = e1, e2 with plain local names: no tuple is made -/
def dPar (is : List Nat) (fa : DA) : DS := fun env st => (fa env st).s env fun ds st => if ds.length = is.length then .nx ((is.zip ds).foldl (fun env p => env.set p.1 (some p.2)) env) st else .bad
theorem s_par {i j : Nat} {x y : Str} {a b : Expr} {fa : DA} {px py pt : Pos} {kt k2 pt2} (O : Ok X g W k) (ha : PAD X g W [a, b] fa) (hi : X.N[i]? = some x := by rfl) (hj : X.N[j]? = some y := by rfl) (hij : i ≠ j := by decide)
    (hx : X.env.scope.names.lookup x = some .local := by rfl) (hy : X.env.scope.names.lookup y = some .local := by rfl)
    (hw : swappedStores [.Tuple [.Name x px, .Name y py] kt pt] (.Tuple [a, b] k2 pt2) X.env = pure (some [x, y]) := by rfl)
    (hs : swapsWithSole [.Tuple [.Name x px, .Name y py] kt pt] (.Tuple [a, b] k2 pt2) pos.line X.env = pure false := by rfl) :
    PSD X g W (.Assign [.Tuple [.Name x px, .Name y py] kt pt] (.Tuple [a, b] k2 pt2) pos) (dPar [i, j] fa) := PS.imp (ps_par O.calm O.nd hi hj hij hx hy ha hw hs) fun Dn σ H ⟨μ, env, st, S, E, q⟩ => by
  refine sA S E q fun μ1 H1 ds st1 vs L S1 E1 r1 h1 => ?_
  match ds, vs, r1, h1 with
  | [d1, d2], vs, ⟨v1, _, e1, r1, v2, _, e2, r2, e3⟩, h1 =>
    subst e3 e2 e1
    exact ⟨v1, v2, rfl, h1 μ1 H1 _ Le.refl S1 ((E1.set i r1).set j r2)⟩
  | [], _, _, h1 => exact h1.elim
  | [_], _, _, h1 => exact h1.elim
  | _ :: _ :: _ :: _, _, _, h1 => simp at h1; exact h1.elim
theorem s_par3 {i j l : Nat} {x y z : Str} {a b c : Expr} {fa : DA} {px py pz pt : Pos} {kt k2 pt2} (O : Ok X g W k) (ha : PAD X g W [a, b, c] fa) (hi : X.N[i]? = some x := by rfl) (hj : X.N[j]? = some y := by rfl) (hl : X.N[l]? = some z := by rfl) (hij : i ≠ j := by decide) (hil : i ≠ l := by decide) (hjl : j ≠ l := by decide)
    (hx : X.env.scope.names.lookup x = some .local := by rfl) (hy : X.env.scope.names.lookup y = some .local := by rfl) (hz : X.env.scope.names.lookup z = some .local := by rfl)
    (hw : swappedStores [.Tuple [.Name x px, .Name y py, .Name z pz] kt pt] (.Tuple [a, b, c] k2 pt2) X.env = pure (some [x, y, z]) := by rfl)
    (hs : swapsWithSole [.Tuple [.Name x px, .Name y py, .Name z pz] kt pt] (.Tuple [a, b, c] k2 pt2) pos.line X.env = pure false := by rfl) :
    PSD X g W (.Assign [.Tuple [.Name x px, .Name y py, .Name z pz] kt pt] (.Tuple [a, b, c] k2 pt2) pos) (dPar [i, j, l] fa) := PS.imp (ps_par3 O.calm O.nd hi hj hl hij hil hjl hx hy hz ha hw hs) fun Dn σ H ⟨μ, env, st, S, E, q⟩ => by
  refine sA S E q fun μ1 H1 ds st1 vs L S1 E1 r1 h1 => ?_
  match ds, vs, r1, h1 with
  | [d1, d2, d3], vs, ⟨v1, _, e1, r1, v2, _, e2, r2, v3, _, e3, r3, e4⟩, h1 =>
    subst e4 e3 e2 e1
    exact ⟨v1, v2, v3, rfl, h1 μ1 H1 _ Le.refl S1 (((E1.set i r1).set j r2).set l r3)⟩
  | [], _, _, h1 => exact h1.elim
  | [_], _, _, h1 => exact h1.elim
  | [_, _], _, _, h1 => exact h1.elim
  | _ :: _ :: _ :: _ :: _, _, _, h1 => simp at h1; exact h1.elim
/-- name op= e, ints -/
def dAug (i : Nat) (h : D → D → Store → R D) (f : DE) : DS := fun env st => match env[i]? with
  | some (some x) => (f env st).s env fun y st => (h x y st).s env fun z st => .nx (env.set i (some z)) st
  | _ => .bad
theorem s_aug {i : Nat} {x : Str} {e : Expr} {f : DE} {op : Operator} {ti : TIp} {pos' : Pos} {h : D → D → Store → R D} (O : Ok X g W k) (he : PD X g W e f) (ho : PIp X op ti) (hr : RV g W ti h) (hi : X.N[i]? = some x := by rfl) (hx : Loc X.env.scope x := by first | exact .inl rfl | exact .inr rfl)
    (hf : X.fn x = true ∨ X.env.scope.names.lookup x = some .local := by first | exact .inl rfl | exact .inr rfl) : PSD X g W (.AugAssign (.Name x pos') op e pos) (dAug i h f) :=
  PS.imp (ps_aug O.nd hi hx he ho hf) fun Dn σ H ⟨μ, env, st, S, E, q⟩ => by
    unfold dAug at q
    split at q
    · rename_i d hd
      obtain ⟨v, h1, r1⟩ := E.at_ i d hd
      refine ⟨v, h1, sE S E q fun μ1 H1 d2 st1 v2 L1 S1 E1 r2 h2 => ?_⟩
      refine hr σ μ1 H1 st1 d d2 v v2 _ S1 (r1.le L1) r2 ?_
      generalize h d d2 st1 = rr at h2 ⊢
      cases rr with
      | ok z st2 => exact fun μ2 H2 L2 S2 w rw_ => (PostS.le L2 h2) μ2 H2 _ Le.refl S2 ((E1.le L2).set i rw_)
      | ex c st2 => exact fun μ2 H2 L2 S2 => h2 μ2 H2 σ L2 S2 (E1.le L2)
      | bad => exact h2
    · exact q.elim
def aAddI : D → D → Store → R D
  | .int i, .int j, st => .ok (.int (i + j)) st
  | _, _, _ => .bad
theorem rvAddI : RV g W (ipI fun i j => i + j) aAddI := fun σ μ H st x y v u Q S rx ry h => by
  unfold aAddI at h
  split at h
  · exact ⟨_, _, rx, ry, h.here S _ rfl⟩
  · exact h.elim
theorem rvSubI : RV g W (ipI fun i j => i - j) aSub := fun σ μ H st x y v u Q S rx ry h => by
  unfold aSub at h
  split at h
  · exact ⟨_, _, rx, ry, h.here S _ rfl⟩
  · exact h.elim
theorem s_addI {i : Nat} {x : Str} {e : Expr} {f : DE} {pos' : Pos} (O : Ok X g W k) (he : PD X g W e f) (hi : X.N[i]? = some x := by rfl) (hx : Loc X.env.scope x := by first | exact .inl rfl | exact .inr rfl)
    (hf : X.fn x = true ∨ X.env.scope.names.lookup x = some .local := by first | exact .inl rfl | exact .inr rfl) : PSD X g W (.AugAssign (.Name x pos') .Add e pos) (dAug i aAddI f) := s_aug O he ip_add rvAddI hi hx hf
theorem s_subI {i : Nat} {x : Str} {e : Expr} {f : DE} {pos' : Pos} (O : Ok X g W k) (he : PD X g W e f) (hi : X.N[i]? = some x := by rfl) (hx : Loc X.env.scope x := by first | exact .inl rfl | exact .inr rfl)
    (hf : X.fn x = true ∨ X.env.scope.names.lookup x = some .local := by first | exact .inl rfl | exact .inr rfl) : PSD X g W (.AugAssign (.Name x pos') .Sub e pos) (dAug i aSub f) := s_aug O he ip_sub rvSubI hi hx hf
/-- o[i] = e, o a list of the store -/
def setAt (st : Store) (o i d : D) : Option Store := match o, i with
  | .ref n, .int k => match lstAt st n with
    | some ds => (match ixN ds.length k with
      | some j => some (st.set n (.lst (ds.set j d)))
      | none => none)
    | none => none
  | _, _ => none
def dSetL (fe fo fi : DE) : DS := fun env st => (fe env st).s env fun d st => (fo env st).s env fun o st => (fi env st).s env fun i st => match setAt st o i d with
  | some st => .nx env st
  | none => .bad
theorem s_setL {o i e : Expr} {fe fo fi : DE} {pos' : Pos} (he : PD X g W e fe) (ho : PD X g W o fo) (hi : PD X g W i fi)
    (ha : ∀ v, assign (.Subscript o i pos') X.env v = (do
      let ov ← holding [v] (eval o X.env)
      let iv ← holding [v, ov] (eval i X.env)
      standAt pos'
      holding [v, ov, iv] (setItem ov iv v)
      release [v, ov, iv] []) := by intro _; rfl)
    (hs : swapsWithSole [.Subscript o i pos'] e pos.line X.env = pure false := by rfl) (hw : swappedStores [.Subscript o i pos'] e X.env = pure none := by rfl)
    (h1 : (assignEach [.Subscript o i pos'] X.env).map (·.2) = [assign (.Subscript o i pos') X.env] := by rfl) : PSD X g W (.Assign [.Subscript o i pos'] e pos) (dSetL fe fo fi) :=
  PS.imp (ps_asg he (pg_sub ho hi set_list ha) hs hw h1) fun Dn σ H ⟨μ, env, st, S, E, q⟩ => by
    refine sE S E q fun μ1 H1 d st1 v L1 S1 E1 r1 h1 => ?_
    refine sE S1 E1 h1 fun μ2 H2 od st2 ov L2 S2 E2 r2 h2 => ?_
    refine sE S2 E2 h2 fun μ3 H3 id_ st3 iv L3 S3 E3 r3 h3 => ?_
    cases e : setAt st3 od id_ d with
    | none => rw [e] at h3; exact h3.elim
    | some st4 =>
      rw [e] at h3
      unfold setAt at e
      split at e
      · rename_i n kk
        split at e
        · rename_i ds hds
          split at e
          · rename_i j hj
            cases e
            have r2 := r2.le L3
            have r1 := (r1.le L2).le L3
            obtain ⟨a, ea, ha⟩ := r2
            obtain ⟨vs, h4, h5⟩ := S3.at_ n a _ ha (lstAt_eq hds)
            refine ⟨a, vs, kk, j, ea, r3, h4, by rw [← h5.len]; exact hj, ?_⟩
            have hm := List.mem_of_getElem? ha
            have L5 := le_set (o := .lst (vs.set j v)) S3 hm
            exact h3 μ3 _ σ L5 (S3.set ha ⟨_, upd_same, (Reps.set r1 j h5).le L5⟩) (E3.le L5)
          · cases e
        · cases e
      · cases e
end

/-! ### loops -/
section
variable {X : Cx} {g : GC} {W : WX} {k : Nat} {pos : Pos}
/-- behind a turn: k is the rest of the loop -/
def loopK (k : Env → Store → SR) (r : SR) : SR := match r with
  | .nx env st => k env st
  | .ct env st => k env st
  | .bk env st => .nx env st
  | r => r
def whileD (ft : DT) (fb : DS) : Nat → Env → Store → SR
  | 0, _, _ => .bad
  | n + 1, env, st => (ft env st).s env fun b st => if b = true then loopK (whileD ft fb n) (fb env st) else .nx env st
def dWhile (ft : DT) (fb : DS) : DS := whileD ft fb 100000000
theorem s_while {c : Expr} {body : List Stmt} {ft : DT} {fb : DS} (O : Ok X g W k) (hc : PTD X g W c ft) (hb : PSsD X g W body fb) : PSD X g W (.While c body [] pos) (dWhile ft fb) :=
  PS.imp (ps_while O.hp hc hb) fun Dn σ H ⟨μ, env, st, S, E, q⟩ => by
    refine ⟨fun m σ H => ∃ μ env st, RelS g μ H st ∧ RelE g μ H env σ ∧ PostS g W μ H (whileD ft fb m env st) Dn, ⟨100000000, μ, env, st, S, E, q⟩, ?_⟩
    rintro m σ H ⟨μ, env, st, S, E, q⟩
    cases m with
    | zero => exact q.elim
    | succ m =>
      have q : PostS g W μ H ((ft env st).s env fun b st => if b = true then loopK (whileD ft fb m) (fb env st) else .nx env st) Dn := q
      refine sT S E q fun μ1 H1 b st1 L S1 E1 h1 => ?_
      cases b with
      | false =>
        rw [if_neg Bool.false_ne_true] at h1 ⊢
        exact h1 μ1 H1 σ Le.refl S1 E1
      | true =>
        rw [if_pos rfl] at h1 ⊢
        refine ⟨fun σ' H' => ∃ μ env st, RelS g μ H' st ∧ RelE g μ H' env σ' ∧ PostS g W μ H' (whileD ft fb m env st) Dn, fun σ' H' n => ⟨m, Nat.lt_succ_self m, n⟩, μ1, env, st1, S1, E1, ?_⟩
        generalize fb env st1 = r at h1 ⊢
        cases r with
        | nx env2 st2 => exact fun μ2 H2 σ2 L2 S2 E2 => ⟨μ2, env2, st2, S2, E2, PostS.le L2 h1⟩
        | ct env2 st2 => exact fun μ2 H2 σ2 L2 S2 E2 => ⟨μ2, env2, st2, S2, E2, PostS.le L2 h1⟩
        | bk env2 st2 => exact h1
        | rt d st2 => exact h1
        | ex c env2 st2 => exact h1
        | bad => exact h1
end
end G

namespace G
open PySem L2
/-! ### the very same data -/
mutual
def D.same : D → D → Bool
  | .non, .non => true
  | .bl a, .bl b => a == b
  | .int i, .int j => i == j
  | .str x, .str y => x == y
  | .lst xs, .lst ys => D.sames xs ys
  | .tup xs, .tup ys => D.sames xs ys
  | .dic ks xs, .dic ls ys => decide (ks = ls) && D.sames xs ys
  | .ref n, .ref m => n == m
  | .fn x, .fn y => x == y
  | .lam n, .lam m => n == m
  | .scr x, .scr y => x == y
  | _, _ => false
def D.sames : List D → List D → Bool
  | [], [] => true
  | x :: xs, y :: ys => D.same x y && D.sames xs ys
  | _, _ => false
end
mutual
theorem same_eq : ∀ (d e : D), D.same d e = true → d = e
  | .non, e, h => by cases e <;> first | rfl | cases h
  | .bl a, e, h => by cases e <;> first | (rename_i b; have h : (a == b) = true := h; rw [beq_iff_eq.mp h]) | cases h
  | .int a, e, h => by cases e <;> first | (rename_i b; have h : (a == b) = true := h; rw [beq_iff_eq.mp h]) | cases h
  | .str a, e, h => by cases e <;> first | (rename_i b; have h : (a == b) = true := h; rw [beq_iff_eq.mp h]) | cases h
  | .ref a, e, h => by cases e <;> first | (rename_i b; have h : (a == b) = true := h; rw [beq_iff_eq.mp h]) | cases h
  | .fn a, e, h => by cases e <;> first | (rename_i b; have h : (a == b) = true := h; rw [beq_iff_eq.mp h]) | cases h
  | .lam a, e, h => by cases e <;> first | (rename_i b; have h : (a == b) = true := h; rw [beq_iff_eq.mp h]) | cases h
  | .scr a, e, h => by cases e <;> first | (rename_i b; have h : (a == b) = true := h; rw [beq_iff_eq.mp h]) | cases h
  | .lst xs, e, h => by cases e <;> first | (rename_i ys; rw [sames_eq xs ys h]) | cases h
  | .tup xs, e, h => by cases e <;> first | (rename_i ys; rw [sames_eq xs ys h]) | cases h
  | .dic ks xs, e, h => by
    cases e <;> first
      | (rename_i ls ys
         have h : (decide (ks = ls) && D.sames xs ys) = true := h
         rw [Bool.and_eq_true, decide_eq_true_eq] at h
         rw [h.1, sames_eq xs ys h.2])
      | cases h
theorem sames_eq : ∀ (ds es : List D), D.sames ds es = true → ds = es
  | [], [], _ => rfl
  | [], _ :: _, h => nomatch h
  | _ :: _, [], h => nomatch h
  | d :: ds, e :: es, h => by
    have h : (D.same d e && D.sames ds es) = true := h
    rw [Bool.and_eq_true] at h
    rw [same_eq d e h.1, sames_eq ds es h.2]
end
mutual
theorem same_refl : ∀ (d : D), D.same d d = true
  | .non => rfl
  | .bl a => beq_self_eq_true a
  | .int a => beq_self_eq_true a
  | .str a => beq_self_eq_true a
  | .ref a => beq_self_eq_true a
  | .fn a => beq_self_eq_true a
  | .lam a => beq_self_eq_true a
  | .scr a => beq_self_eq_true a
  | .lst xs => sames_refl xs
  | .tup xs => sames_refl xs
  | .dic ks xs => by
    show (decide (ks = ks) && D.sames xs xs) = true
    rw [sames_refl xs, decide_eq_true rfl] <;> rfl
theorem sames_refl : ∀ (ds : List D), D.sames ds ds = true
  | [] => rfl
  | d :: ds => by
    show (D.same d d && D.sames ds ds) = true
    rw [same_refl d, sames_refl ds] <;> rfl
end

/-! ### what is walked -/
/-- a list of the store is walked: it may not change meanwhile -/
abbrev Gd := Option (Nat × List D)
def gdOk (gd : Gd) (st : Store) : Bool := match gd with
  | none => true
  | some (n, ds) => match lstAt st n with
    | some es => D.sames es ds
    | none => false
def ItOk (g : GC) (J : It) (ds : List D) (gd : Gd) (μ : Mp) (H : Hp) : Prop :=
  ∀ μ' H' st', Lw μ H μ' H' → RelS g μ' H' st' → gdOk gd st' = true →
    (∀ (i : Nat) d, ds[i]? = some d → J.go i H' ∧ ∀ x H'', J.yld i H' x H'' → Le μ' H' μ' H'' ∧ RelS g μ' H'' st' ∧ Rep g μ' H'' d x) ∧ J.stop ds.length H'
abbrev DI := Env → Store → R (List D × Gd)
def tDI (g : GC) (W : WX) (f : DI) : TI := fun σ H R => ∃ μ env st, RelS g μ H st ∧ RelE g μ H env σ ∧ Post g W σ μ H (f env st) (fun μ' H' p _ => ∀ J, ItOk g J p.1 p.2 μ' H' → R J H')
def PID (X : Cx) (g : GC) (W : WX) (tg iter : Expr) (f : DI) : Prop := PI X tg iter (tDI g W f)
theorem PI.imp {X : Cx} {tg e : Expr} {t t' : TI} (h : PI X tg e t) (hi : ∀ σ H Q, t' σ H Q → t σ H Q) : PI X tg e t' := ⟨fun pins s σ H Q I q => h.run pins s σ H Q I (hi _ _ _ q)⟩
section
variable {X : Cx} {g : GC} {W : WX} {k : Nat} {pos : Pos} {tg : Expr}
/-- a list or a tuple -/
def iSeq (K : PySem.W.Frag) (tl : TE) : TI := fun σ H R => tl σ H fun x H1 => ∃ a, x = .ref a ∧ (((∃ xs, SqL K H1 a xs) ∧ R (Itl K a) H1) ∨ ((∃ xs, SqT K H1 a xs) ∧ R (Itt K a) H1))
theorem fresh_fp {pins : List (Addr × Obj)} {σ : L2.St} {H : Hp} {s : Shared} (I : Inv X pins σ H s) : ∀ b ∈ [s.heap.objs.size], FpOk X pins H b := fun b hb => by
  rw [List.mem_singleton.mp hb]
  exact I.fpOk (Nat.le_refl _) (I.hok.fresh (Nat.le_refl _))
theorem pi_seq {l : Expr} {tl : TE} (hl : PE X l tl) : PI X tg l (iSeq X.K tl) := by
  constructor
  intro pins s₀ σ H R I h
  refine thn (hl.run pins s₀ σ H _ I h) fun v s₂ hv => ?_
  obtain ⟨x, H2, I2, rx, a, ea, h2⟩ := hv
  subst ea
  obtain rfl : v = Value.ref a := rx
  have kp : ∀ o₂ : Obj, Inv X pins σ H2 { s₂ with heap := s₂.heap.push o₂ } := fun o₂ => I2.kept (t' := s₂.toks) fun c u e => Heap.get?_push_of_some _ e
  rcases h2 with ⟨⟨xs, hx⟩, hR⟩ | ⟨⟨xs, hx⟩, hR⟩
  · obtain ⟨vs, _, pl, _⟩ := I2.list hx
    exact wpAny_pyIter_list pl.isList ⟨_, [s₂.heap.objs.size], _, _, H2, rfl, kp _, turn_list a _, ⟨_, Heap.get?_push_size _ rfl, rfl, rfl⟩, fresh_fp I2, hR⟩
  · obtain ⟨vs, _, pt, _⟩ := I2.tuple hx
    exact wpAny_pyIter_tuple (t := a) (items := vs.toArray) pt ⟨_, [s₂.heap.objs.size], _, _, H2, rfl, kp _, turn_tuple a _, ⟨_, Heap.get?_push_size _ rfl, rfl, rfl⟩, fresh_fp I2, hR⟩
def gdOf (st : Store) : D → Option (List D × Gd)
  | .tup ds => some (ds, none)
  | .lst ds => some (ds, none)
  | .scr ns => some (ns.map .int, none)
  | .ref n => (lstAt st n).map fun ds => (ds, some (n, ds))
  | _ => none
def dIt (f : DE) : DI := fun env st => (f env st).bind fun d st => match gdOf st d with
  | some p => .ok p st
  | none => .bad
theorem sql_inj {K : PySem.W.Frag} {H : Hp} {a : Addr} {xs ys : List V} (h : H a = some (.lst xs)) (h' : Rd H a (.lst ys)) : xs = ys := by
  rcases h' with h' | ⟨o, h'⟩
  · rw [h] at h'; cases h'; rfl
  · rw [h] at h'; cases h'
/-- a list that may be told by the written part too: the list that it is -/
theorem itl_ok {J : It} {K : PySem.W.Frag} {a : Addr} (e : J = Itl K a) {ds : List D} {gd : Gd} {μ : Mp} {H : Hp} (hK : g.K = K)
    (h : ∀ μ' H' st', Lw μ H μ' H' → RelS g μ' H' st' → gdOk gd st' = true → ∃ vs, SqL K H' a vs ∧ Reps g μ' H' ds vs) : ItOk g J ds gd μ H := by
  subst e
  intro μ' H' st' L S hg
  obtain ⟨vs, h1, h2⟩ := h μ' H' st' L S hg
  refine ⟨fun i d hd => ?_, ⟨vs, h1, by rw [h2.len]; exact Nat.le_refl _⟩⟩
  obtain ⟨v, h3, h4⟩ := h2.get hd
  refine ⟨⟨vs, v, h1, h3⟩, fun x H'' y => ?_⟩
  obtain ⟨e, y⟩ := y
  subst e
  have := y vs h1
  rw [h3] at this
  cases this
  exact ⟨Le.refl, S, h4⟩
theorem itt_ok {J : It} {K : PySem.W.Frag} {a : Addr} (e : J = Itt K a) {ds : List D} {gd : Gd} {μ : Mp} {H : Hp}
    (h : ∀ μ' H' st', Lw μ H μ' H' → RelS g μ' H' st' → gdOk gd st' = true → ∃ vs, SqT K H' a vs ∧ Reps g μ' H' ds vs) : ItOk g J ds gd μ H := by
  subst e
  intro μ' H' st' L S hg
  obtain ⟨vs, h1, h2⟩ := h μ' H' st' L S hg
  refine ⟨fun i d hd => ?_, ⟨vs, h1, by rw [h2.len]; exact Nat.le_refl _⟩⟩
  obtain ⟨v, h3, h4⟩ := h2.get hd
  refine ⟨⟨vs, v, h1, h3⟩, fun x H'' y => ?_⟩
  obtain ⟨e, y⟩ := y
  subst e
  have := y vs h1
  rw [h3] at this
  cases this
  exact ⟨Le.refl, S, h4⟩
theorem i_seq {l : Expr} {f : DE} (O : Ok X g W k) (h : PD X g W l f) : PID X g W tg l (dIt f) := PI.imp (pi_seq h) fun σ H R ⟨μ, env, st, S, E, q⟩ => by
  refine bindE S E q fun μ1 H1 d st1 v L1 S1 E1 r1 h1 => ?_
  rw [O.hK]
  cases d with
  | tup ds =>
    obtain ⟨a, vs, e, h2, r2⟩ := seqT_ok (ds := ds) r1 rfl
    refine ⟨a, e, .inr ⟨⟨vs, h2⟩, h1.here S1 _ (itt_ok rfl fun μ' H' st' L S _ => ?_)⟩⟩
    obtain ⟨a', vs', e', h3, r3⟩ := seqT_ok (ds := ds) (r1.lw L) rfl
    rw [e] at e'
    cases e'
    exact ⟨vs', h3, r3⟩
  | lst ds =>
    obtain ⟨a, vs, e, h2, r2⟩ := seqL_ok S1 (ds := ds) r1 rfl
    refine ⟨a, e, .inl ⟨⟨vs, h2⟩, h1.here S1 _ (itl_ok rfl rfl fun μ' H' st' L S _ => ?_)⟩⟩
    obtain ⟨a', vs', e', h3, r3⟩ := seqL_ok S (ds := ds) (r1.lw L) rfl
    rw [e] at e'
    cases e'
    exact ⟨vs', h3, r3⟩
  | scr ns =>
    obtain ⟨a, vs, e, h2, r2⟩ := seqL_ok S1 (ds := ns.map .int) r1 rfl
    refine ⟨a, e, .inl ⟨⟨vs, h2⟩, h1.here S1 _ (itl_ok rfl rfl fun μ' H' st' L S _ => ?_)⟩⟩
    obtain ⟨a', vs', e', h3, r3⟩ := seqL_ok S (ds := ns.map .int) (r1.lw L) rfl
    rw [e] at e'
    cases e'
    exact ⟨vs', h3, r3⟩
  | ref n =>
    cases hn : lstAt st1 n with
    | none => simp only [gdOf, hn] at h1; exact h1.elim
    | some ds =>
      simp only [gdOf, hn] at h1
      obtain ⟨a, vs, e, h2, r2⟩ := seqL_ok S1 (ds := ds) r1 hn
      refine ⟨a, e, .inl ⟨⟨vs, h2⟩, h1.here S1 _ (itl_ok rfl rfl fun μ' H' st' L S hg => ?_)⟩⟩
      have hs : lstAt st' n = some ds := by
        have hg : (match lstAt st' n with
          | some es => D.sames es ds
          | none => false) = true := hg
        cases q : lstAt st' n with
        | none => rw [q] at hg; cases hg
        | some es => rw [q] at hg; rw [sames_eq _ _ hg]
      obtain ⟨a', vs', e', h3, r3⟩ := seqL_ok S (ds := ds) (r1.lw L) hs
      rw [e] at e'
      cases e'
      exact ⟨vs', h3, r3⟩
  | _ => exact h1.elim
/-- range -/
def rangeD (lo hi : Int) : List D := (List.range (hi - lo).toNat).map fun i => .int (lo + (i : Nat))
def bnd (i : Int) : Bool := decide (-4611686018427387904 ≤ i) && decide (i < 4611686018427387904)
theorem bnd_ok {i : Int} (h : bnd i = true) : -(2 ^ 62) ≤ i ∧ i < 2 ^ 62 := by
  unfold bnd at h
  rw [Bool.and_eq_true, decide_eq_true_eq, decide_eq_true_eq] at h
  exact h
def dRng1 (f : DE) : DI := fun env st => (f env st).bind fun d st => match d with
  | .int j => if bnd j = true then .ok (rangeD 0 j, none) st else .bad
  | _ => .bad
def dRng2 (f h : DE) : DI := fun env st => (f env st).bind fun d st => (h env st).bind fun e st => match d, e with
  | .int i, .int j => if bnd i = true ∧ bnd j = true then .ok (rangeD i j, none) st else .bad
  | _, _ => .bad
theorem itr_ok {lo hi : Int} {μ : Mp} {H : Hp} : ItOk g (Itr lo (hi - lo).toNat) (rangeD lo hi) none μ H := by
  intro μ' H' st' L S _
  refine ⟨fun i d hd => ?_, by show (hi - lo).toNat ≤ (rangeD lo hi).length; unfold rangeD; simp⟩
  unfold rangeD at hd
  rw [List.getElem?_map] at hd
  by_cases hi' : i < (hi - lo).toNat
  · rw [List.getElem?_range hi'] at hd
    cases hd
    refine ⟨hi', fun x H'' y => ?_⟩
    obtain ⟨e, y⟩ := y
    subst e y
    exact ⟨Le.refl, S, rfl⟩
  · rw [List.getElem?_eq_none (by simpa using hi')] at hd
    cases hd
theorem i_range1 {a : Expr} {f : DE} {p : Pos} (hm : X.mg "range" = none) (ha : PD X g W a f) (hg : Gl X "range" := by rfl) (hs : starEach [a] X.env = [(false, eval a X.env)] := by rfl) : PID X g W tg (.Call (.Name "range" p) [a] [] pos) (dRng1 f) :=
  PI.imp (pi_range1 hg hm (L2.pa_cons ha L2.pa_nil hs) hs) fun σ H R₀ ⟨μ, env, st, S, E, q⟩ => by
    refine bindE S E q fun μ1 H1 d st1 v L1 S1 E1 r1 h1 => ?_
    cases d with
    | int j =>
      have h1 : Post g W σ μ1 H1 (if bnd j = true then .ok (rangeD 0 j, none) st1 else .bad) _ := h1
      split at h1
      · rename_i hj
        refine ⟨j, by rw [show v = V.int j from r1], (bnd_ok hj).1, (bnd_ok hj).2, h1.here S1 _ ?_⟩
        have := itr_ok (g := g) (lo := 0) (hi := j) (μ := μ1) (H := H1)
        rw [Int.sub_zero] at this
        exact this
      · exact h1.elim
    | _ => exact h1.elim
theorem i_range2 {a b : Expr} {f h : DE} {p : Pos} (hm : X.mg "range" = none) (ha : PD X g W a f) (hb : PD X g W b h) (hg : Gl X "range" := by rfl) (hs : starEach [a, b] X.env = [(false, eval a X.env), (false, eval b X.env)] := by rfl) (hs2 : starEach [b] X.env = [(false, eval b X.env)] := by rfl) :
    PID X g W tg (.Call (.Name "range" p) [a, b] [] pos) (dRng2 f h) :=
  PI.imp (pi_range2 hg hm (L2.pa_cons ha (L2.pa_cons hb L2.pa_nil hs2) (by rw [hs, hs2])) hs hs2) fun σ H R₀ ⟨μ, env, st, S, E, q⟩ => by
    refine bindE S E q fun μ1 H1 d st1 v L1 S1 E1 r1 h1 => ?_
    refine bindE S1 E1 h1 fun μ2 H2 d2 st2 v2 L2 S2 E2 r2 h2 => ?_
    have r1 := r1.le L2
    cases d with
    | int i =>
      cases d2 with
      | int j =>
        have h2 : Post g W σ μ2 H2 (if bnd i = true ∧ bnd j = true then .ok (rangeD i j, none) st2 else .bad) _ := h2
        split at h2
        · rename_i hj
          exact ⟨i, j, by rw [show v = V.int i from r1, show v2 = V.int j from r2], ⟨(bnd_ok hj.1).1, (bnd_ok hj.1).2, (bnd_ok hj.2).1, (bnd_ok hj.2).2⟩, h2.here S2 _ itr_ok⟩
        · exact h2.elim
      | _ => exact h2.elim
    | _ => exact h2.elim
/-! ### for -/
def forD (gt : DG) (fb : DS) (gd : Gd) : List D → Env → Store → SR
  | [], env, st => if gdOk gd st = true then .nx env st else .bad
  | d :: ds, env, st => if gdOk gd st = true then (match gt d env with
    | none => .bad
    | some env => loopK (forD gt fb gd ds) (fb env st)) else .bad
def dFor (fi : DI) (gt : DG) (fb : DS) : DS := fun env st => (fi env st).s env fun p st => forD gt fb p.2 p.1 env st
theorem sI {f : DI} {q : List D × Gd → Store → SR} {μ : Mp} {H : Hp} {env : Env} {σ : L2.St} {st : Store} {Dn : Ends} (S : RelS g μ H st) (E : RelE g μ H env σ) (h : PostS g W μ H ((f env st).s env q) Dn) {Rest : It → Hp → Prop}
    (hk : ∀ μ1 H1 p st1 J, Le μ H μ1 H1 → RelS g μ1 H1 st1 → RelE g μ1 H1 env σ → ItOk g J p.1 p.2 μ1 H1 → PostS g W μ1 H1 (q p st1) Dn → Rest J H1) : tDI g W f σ H Rest := by
  refine ⟨μ, env, st, S, E, ?_⟩
  generalize f env st = r at h ⊢
  cases r with
  | ok d st1 => exact fun μ1 H1 L S1 J hJ => hk μ1 H1 d st1 J L S1 (E.le L) hJ (PostS.le L h)
  | ex c st1 => exact fun μ1 H1 L S1 => h μ1 H1 σ L S1 (E.le L)
  | bad => exact h
theorem ItOk.le {J : It} {ds : List D} {gd : Gd} {μ μ' : Mp} {H H' : Hp} (L : Lw μ H μ' H') (h : ItOk g J ds gd μ H) : ItOk g J ds gd μ' H' := fun μ2 H2 st2 L2 => h μ2 H2 st2 (L.trans L2)
theorem s_for {iter : Expr} {body : List Stmt} {fi : DI} {is : List Nat} {gt : DG} {fb : DS} (O : Ok X g W k) (hi : PID X g W tg iter fi) (hg : PGD X g tg is gt) (hb : PSsD X g W body fb) (hs : ∀ x, foldedSetIterable iter X.env x = pure x := by intro _; rfl) : PSD X g W (.For tg iter body [] pos) (dFor fi gt fb) :=
  PS.imp (ps_for O.hp O.calm hi hg hb hs) fun Dn σ H ⟨μ, env, st, S, E, q⟩ => by
    refine sI S E q fun μ1 H1 p st1 J L1 S1 E1 hJ h1 => ?_
    obtain ⟨ds, gd⟩ := p
    refine ⟨fun i m σ H => m = ds.length - i ∧ i ≤ ds.length ∧ ∃ μ env st, RelS g μ H st ∧ RelE g μ H env σ ∧ ItOk g J ds gd μ H ∧ PostS g W μ H (forD gt fb gd (ds.drop i) env st) Dn,
      ⟨ds.length, by simp, Nat.zero_le _, μ1, env, st1, S1, E1, hJ, h1⟩, ?_⟩
    rintro i m σ H ⟨rfl, hi, μ, env, st, S, E, hJ, q⟩
    by_cases hlt : i < ds.length
    · rw [List.drop_eq_getElem_cons hlt] at q
      have q : PostS g W μ H (if gdOk gd st = true then (match gt ds[i] env with
        | none => .bad
        | some env => loopK (forD gt fb gd (ds.drop (i + 1))) (fb env st)) else .bad) Dn := q
      split at q
      · rename_i hgd
        obtain ⟨hgo, hy⟩ := (hJ μ H st Lw.refl S hgd).1 i ds[i] (List.getElem?_eq_getElem hlt)
        refine .inr ⟨hgo, fun σ' H' => ds.length - (i + 1) = ds.length - (i + 1) ∧ i + 1 ≤ ds.length ∧ ∃ μ env st, RelS g μ H' st ∧ RelE g μ H' env σ' ∧ ItOk g J ds gd μ H' ∧ PostS g W μ H' (forD gt fb gd (ds.drop (i + 1)) env st) Dn, fun σ' H' w => ⟨ds.length - (i + 1), by omega, w⟩, fun x H' y => ?_⟩
        obtain ⟨L2, S2, r2⟩ := hy x H' y
        cases e : gt ds[i] env with
        | none => rw [e] at q; exact q.elim
        | some env2 =>
          rw [e] at q
          refine ⟨μ, env, st, ds[i], S2, E.le L2, r2, env2, e, fun σ2 E2 _ => ⟨μ, env2, st, S2, E2, ?_⟩⟩
          have q : PostS g W μ H' (loopK (forD gt fb gd (ds.drop (i + 1))) (fb env2 st)) Dn := PostS.le L2 q
          generalize fb env2 st = r at q ⊢
          cases r with
          | nx env3 st3 => exact fun μ3 H3 σ3 L3 S3 E3 => ⟨rfl, hlt, μ3, env3, st3, S3, E3, hJ.le (L2.trans L3).toLw, PostS.le L3 q⟩
          | ct env3 st3 => exact fun μ3 H3 σ3 L3 S3 E3 => ⟨rfl, hlt, μ3, env3, st3, S3, E3, hJ.le (L2.trans L3).toLw, PostS.le L3 q⟩
          | bk env3 st3 => exact q
          | rt d st3 => exact q
          | ex c env3 st3 => exact q
          | bad => exact q
      · exact q.elim
    · have hi2 : i = ds.length := by omega
      subst hi2
      rw [List.drop_length] at q
      have q : PostS g W μ H (if gdOk gd st = true then .nx env st else .bad) Dn := q
      split at q
      · rename_i hgd
        exact .inl ⟨(hJ μ H st Lw.refl S hgd).2, q μ H σ Le.refl S E⟩
      · exact q.elim

/-! ### comprehensions -/
def wipeE (env : Env) : List Nat → Env
  | [] => env
  | v :: vs => (wipeE env vs).set v none
theorem RelE.wipe {μ : Mp} {H : Hp} {env : Env} {σ : L2.St} (E : RelE g μ H env σ) : ∀ vs, RelE g μ H (wipeE env vs) (L2.wipe σ vs)
  | [] => E
  | v :: vs => by
    have ih := E.wipe vs
    refine ⟨by show ((wipeE env vs).set v none).length = ((L2.wipe σ vs).set v none).length; rw [List.length_set, List.length_set, ih.len], fun i d h => ?_⟩
    have h : ((wipeE env vs).set v none)[i]? = some (some d) := h
    show ∃ w, ((L2.wipe σ vs).set v none)[i]? = some (some w) ∧ _
    by_cases hv : v = i
    · subst hv
      by_cases hl : v < (wipeE env vs).length
      · rw [List.getElem?_set_self hl] at h; cases h
      · rw [List.getElem?_eq_none (by simpa using hl)] at h; cases h
    · rw [List.getElem?_set_ne hv] at h
      obtain ⟨w, h1, h2⟩ := ih.at_ i d h
      exact ⟨w, by rw [List.getElem?_set_ne hv]; exact h1, h2⟩
end
end G

namespace G
open PySem L2
/-! ### a list that is being made -/
def Mp.hide (μ : Mp) (D : Addr) : Mp := ⟨μ.m, D :: μ.h⟩
section
variable {g : GC} {μ : Mp} {m : List Addr} {h : List Addr} {H H' : Hp} {st : Store} {p : Addr} {o : HO}
/-- it is new -/
theorem lw_hide (S : RelS g μ H st) (hp : H p = none) : Lw μ H (μ.hide p) (upd H p o) := ⟨fun _ _ q => q, fun a u n r t => ⟨⟨n.1, fun z => by
  rcases List.mem_cons.mp z with z | z
  · obtain ⟨x, e⟩ := Rd.some r
    rw [z, hp] at e; cases e
  · exact n.2 z⟩, Rd.upd_ne r fun z => by
  obtain ⟨x, e⟩ := Rd.some r
  rw [z, hp] at e; cases e⟩, fun a vs _ q => by rw [L2.upd_ne (ne_of_none q hp)]; exact q⟩
theorem RelS.hideV (u : HidV) (S : RelS g μ H st) (hp : H p = none) : RelS g (μ.hide p) (upd H p u.ho) st := ⟨S.len, S.nd, fun a ha => by
  rcases List.mem_cons.mp ha with z | z
  · rw [z]
    exact ⟨S.fresh hp, u, upd_same⟩
  · exact S.hid_new hp a z, fun n a so h1 h2 => by
  have r := S.at_ n a so h1 h2
  obtain ⟨u, e, _⟩ := r.there
  exact r.move (lw_hide S hp) ((ext_new hp a u e).trans e.symm), S.tabs.ext (ext_new hp)⟩
theorem RelS.hide {xs : List V} (S : RelS g μ H st) (hp : H p = none) : RelS g (μ.hide p) (upd H p (.lst xs)) st := S.hideV (.l xs) hp
/-- it is known from now on -/
theorem lw_show : Lw (μ.hide p) H μ H := ⟨fun _ _ q => q, fun a u n r _ => ⟨⟨n.1, fun z => n.2 (List.mem_cons_of_mem _ z)⟩, r⟩, fun _ _ _ q => q⟩
theorem RelS.show (S : RelS g (μ.hide p) H st) : RelS g μ H st := ⟨S.len, S.nd, fun a ha => S.hid a (List.mem_cons_of_mem _ ha), fun n a so h1 h2 => (S.at_ n a so h1 h2).move lw_show rfl, S.tabs⟩
/-- it grows -/
theorem le_grow (S : RelS g (μ.hide p) H st) : Lw (μ.hide p) H (μ.hide p) (upd H p o) := ⟨fun _ _ q => q, fun a u n r _ => ⟨n, Rd.upd_ne r fun z => n.2 (by rw [z]; exact List.mem_cons_self)⟩, fun a vs n q => by
  rw [L2.upd_ne fun z => n.2 (by rw [z]; exact List.mem_cons_self)]
  exact q⟩
theorem RelS.growV (u w : HidV) (S : RelS g (μ.hide p) H st) (hp : H p = some u.ho) : RelS g (μ.hide p) (upd H p w.ho) st := ⟨S.len, S.nd, fun a ha => by
  obtain ⟨n, u, e⟩ := S.hid a ha
  by_cases z : a = p
  · rw [z] at n ⊢
    exact ⟨n, w, upd_same⟩
  · exact ⟨n, u, (L2.upd_ne z).trans e⟩, fun n a so h1 h2 => (S.at_ n a so h1 h2).move (le_grow S) (L2.upd_ne fun z => (S.hid p List.mem_cons_self).1 (by rw [← z]; exact List.mem_of_getElem? h1)), fun q hq => by
  obtain ⟨ps, h1, h2, h3⟩ := S.tabs q hq
  refine ⟨ps, (L2.upd_ne fun z => by rw [z, hp] at h1; cases u <;> cases h1).trans h1, h2, fun pos cv hc => ?_⟩
  obtain ⟨c, e1, e2⟩ := h3 pos cv hc
  exact ⟨c, e1, (L2.upd_ne fun z => by rw [z, hp] at e2; cases u <;> cases e2).trans e2⟩⟩
theorem RelS.grow {xs ys : List V} (S : RelS g (μ.hide p) H st) (hp : H p = some (.lst xs)) : RelS g (μ.hide p) (upd H p (.lst ys)) st := S.growV (.l xs) (.l ys) hp
/-- from the start on: all but p -/
theorem le_over {μ0 : Mp} {H0 : Hp} (hh : h = μ0.h) (n0 : H0 p = none) {m' : List Addr} (L : Le μ0 H0 ⟨m, h⟩ H) (L' : Lw ⟨m, p :: h⟩ H ⟨m', p :: h⟩ H') (hk : ∀ a ∈ h, H' a = H a) : Le μ0 H0 ⟨m', h⟩ H' := by
  have np : ∀ a u, Rd H0 a u → a ≠ p := fun a u r z => by
    obtain ⟨x, e⟩ := Rd.some r
    rw [z, n0] at e; cases e
  refine ⟨⟨fun n a q => L'.pre n a (L.pre n a q), fun a u n r t => ?_, fun a vs n q => ?_⟩, hh, fun a ha => (hk a (by rw [hh]; exact ha)).trans (L.hk a ha)⟩
  · obtain ⟨h1, h2⟩ := L.keep a u n r t
    obtain ⟨h3, h4⟩ := L'.keep a u ⟨h1.1, fun z => (List.mem_cons.mp z).elim (np a u r) h1.2⟩ h2 t
    exact ⟨⟨h3.1, fun z => h3.2 (List.mem_cons_of_mem _ z)⟩, h4⟩
  · obtain ⟨h1, _⟩ := L.keep a _ n (.inl q) (by intro _ z; cases z)
    exact L'.keepL a vs ⟨h1.1, fun z => (List.mem_cons.mp z).elim (np a _ (.inl q)) h1.2⟩ (L.keepL a vs n q)
end

section
variable {g : GC} {m h : List Addr} {H : Hp} {st : Store} {D : Addr} {acc : List G.D} {vacc : List V}
/-- it comes into the store -/
theorem lw_adopt : Lw ⟨m, D :: h⟩ H ⟨m ++ [D], h⟩ H := by
  refine ⟨fun n a q => ?_, fun a u n r _ => ⟨⟨fun z => ?_, fun z => n.2 (List.mem_cons_of_mem _ z)⟩, r⟩, fun _ _ _ q => q⟩
  · show (m ++ [D])[n]? = some a
    rw [List.getElem?_append_left (List.getElem?_eq_some_iff.mp q).1]
    exact q
  · rcases List.mem_append.mp z with z | z
    · exact n.1 z
    · exact n.2 (by rw [List.mem_singleton.mp z]; exact List.mem_cons_self)
theorem RelS.adopt (S : RelS g ⟨m, D :: h⟩ H st) (hD : H D = some (.lst vacc)) (r : Reps g ⟨m, D :: h⟩ H acc vacc) (n : D ∉ h) : RelS g ⟨m ++ [D], h⟩ H (st ++ [.lst acc]) := by
  have nm : D ∉ m := (S.hid D List.mem_cons_self).1
  refine ⟨by simp [S.len], ?_, fun a ha => ?_, fun i a so h1 h2 => ?_, S.tabs⟩
  · show (m ++ [D]).Nodup
    rw [List.nodup_append]
    exact ⟨S.nd, by simp, fun x hx y hy z => nm (by rw [List.mem_singleton.mp hy] at z; rw [← z]; exact hx)⟩
  · obtain ⟨n1, u, e⟩ := S.hid a (List.mem_cons_of_mem _ ha)
    refine ⟨fun z => ?_, u, e⟩
    rcases List.mem_append.mp z with z | z
    · exact n1 z
    · exact n (by rw [← List.mem_singleton.mp z]; exact ha)
  · have h1 : (m ++ [D])[i]? = some a := h1
    have sl : m.length = st.length := S.len
    by_cases hi : i < m.length
    · rw [List.getElem?_append_left hi] at h1
      rw [List.getElem?_append_left (by rw [← sl]; exact hi)] at h2
      exact (S.at_ i a so h1 h2).move lw_adopt rfl
    · have hi2 : i = m.length := by
        have := (List.getElem?_eq_some_iff.mp h1).1
        simp at this
        omega
      subst hi2
      simp at h1
      rw [sl] at h2
      simp at h2
      subst h1 h2
      exact ⟨vacc, hD, r.lw lw_adopt⟩
theorem le_adopt {μ0 : Mp} {H0 : Hp} (n0 : H0 D = none) (L : Le μ0 H0 ⟨m, h⟩ H) : Le μ0 H0 ⟨m ++ [D], h⟩ H := by
  refine ⟨⟨fun n a q => ?_, fun a u n r t => ?_, L.keepL⟩, L.hh, L.hk⟩
  · have := L.pre n a q
    show (m ++ [D])[n]? = some a
    rw [List.getElem?_append_left (List.getElem?_eq_some_iff.mp this).1]
    exact this
  · obtain ⟨h1, h2⟩ := L.keep a u n r t
    refine ⟨⟨fun z => ?_, h1.2⟩, h2⟩
    rcases List.mem_append.mp z with z | z
    · exact h1.1 z
    · obtain ⟨x, e⟩ := Rd.some r
      rw [List.mem_singleton.mp z, n0] at e
      cases e
end
/-! ### comprehensions -/
def R.b {α β : Type} (r : R α) (k : α → Store → R β) : R β := match r with
  | .ok a st => k a st
  | _ => .bad
@[simp] theorem R.b_ok {α β : Type} (a : α) (st : Store) (k : α → Store → R β) : (R.ok a st).b k = k a st := rfl
theorem R.b_b {α β γ : Type} (r : R α) (k : α → Store → R β) (k' : β → Store → R γ) : (r.b k).b k' = r.b fun a st => (k a st).b k' := by
  cases r <;> rfl
abbrev W0 : WX := fun _ _ _ _ => False
/-- the items that a comprehension makes -/
def lcD (gt : DG) (ft : DT) (fe : DE) (gd : Gd) : List D → Env → Store → R (List D)
  | [], _, st => if gdOk gd st = true then .ok [] st else .bad
  | d :: ds, env, st => if gdOk gd st = true then (match gt d env with
    | none => .bad
    | some env1 => (ft env1 st).b fun b st => if b = true then (fe env1 st).b fun x st => (lcD gt ft fe gd ds env st).b fun xs st => .ok (x :: xs) st else lcD gt ft fe gd ds env st) else .bad
def dLc (b : Bool) (fi : DI) (gt : DG) (ft : DT) (fe : DE) (vs : List Nat) : DE := fun env st => (fi env st).bind fun p st => if p.1.length ≤ 16777216 then (lcD gt ft fe p.2 p.1 (wipeE env vs) st).b fun xs st => mkL b xs st else .bad
def PTsD (X : Cx) (g : GC) (W : WX) (es : List Expr) (f : DT) : Prop := PTs X es (tDT g W f)
theorem PTs.imp {X : Cx} {e : List Expr} {t t' : TT} (h : PTs X e t) (hi : ∀ σ H Q, t' σ H Q → t σ H Q) : PTs X e t' := ⟨fun pins s σ H Q I q => h.run pins s σ H Q I (hi _ _ _ q)⟩
def dYes : DT := fun _ st => .ok true st
section
variable {X : Cx} {g : GC} {W : WX} {k : Nat} {pos : Pos}
theorem ts_nil : PTsD X g W [] dYes := PTs.imp pts_nil fun σ H Q ⟨μ, env, st, S, E, h⟩ => h.here S
theorem ts_one {c : Expr} {f : DT} (h : PTD X g W c f) : PTsD X g W [c] f := pts_one h
theorem Ok.blk (O : Ok X g W k) (s : Shared) (H : Hp) (scope : Scope) (ce : PySem.Env) (fp : List Addr) : Ok (X.blk s H scope ce fp) g W0 k := ⟨O.hK, takes0, PassesOwn.never, O.calm, O.nd, O.room⟩
theorem But.wipe {is vs : List Nat} {σ σ' : L2.St} (h : But is (L2.wipe σ vs) σ') (hs : ∀ i ∈ is, i ∈ vs) : L2.wipe σ' vs = L2.wipe σ vs := by
  apply List.ext_getElem?
  intro j
  by_cases hj : j ∈ vs
  · have at_ : ∀ (ρ : L2.St) (ws : List Nat), j ∈ ws → (L2.wipe ρ ws)[j]? = if j < ρ.length then some none else none := fun ρ ws => by
      induction ws with
      | nil => intro z; cases z
      | cons w ws ih =>
        intro z
        show ((L2.wipe ρ ws).set w none)[j]? = _
        by_cases e : w = j
        · subst e
          by_cases hl : w < ρ.length
          · rw [if_pos hl, List.getElem?_set_self (by rw [L2.wipe_length]; exact hl)]
          · rw [if_neg hl, List.getElem?_eq_none (by rw [List.length_set, L2.wipe_length]; omega)]
        · rw [List.getElem?_set_ne e]
          exact ih ((List.mem_cons.mp z).resolve_left fun q => e q.symm)
    rw [at_ _ _ hj, at_ _ _ hj, h.1, L2.wipe_length]
  · rw [L2.wipe_out hj, L2.wipe_out hj]
    have := h.2 j fun z => hj (hs j z)
    rw [this, L2.wipe_out hj]
theorem bindI {β : Type} {f : DI} {q : List D × Gd → Store → R β} {μ : Mp} {H : Hp} {env : Env} {σ : L2.St} {st : Store} {P : Mp → Hp → β → Store → Prop} (S : RelS g μ H st) (E : RelE g μ H env σ) (h : Post g W σ μ H ((f env st).bind q) P) {Rest : It → Hp → Prop}
    (hk : ∀ μ1 H1 p st1 J, Le μ H μ1 H1 → RelS g μ1 H1 st1 → RelE g μ1 H1 env σ → ItOk g J p.1 p.2 μ1 H1 → Post g W σ μ1 H1 (q p st1) P → Rest J H1) : tDI g W f σ H Rest := by
  refine ⟨μ, env, st, S, E, ?_⟩
  generalize f env st = r at h ⊢
  cases r with
  | ok d st1 => exact fun μ1 H1 L S1 J hJ => hk μ1 H1 d st1 J L S1 (E.le L) hJ (Post.le L h)
  | ex c st1 => exact fun μ1 H1 L S1 => h μ1 H1 L S1
  | bad => exact h
/-- the reading of a comprehension -/
theorem lc_ok {b : Bool} {is vs : List Nat} {gt : DG} {ft : DT} {fe : DE} {σ : L2.St} {Q : VK} {μ1 : Mp} {H1 : Hp} {env : Env} {ds : List D} {gd : Gd} {st1 : Store} {J : It} (S1 : RelS g μ1 H1 st1) (E1 : RelE g μ1 H1 env σ) (hJ : ItOk g J ds gd μ1 H1) (hv : ∀ i ∈ is, i ∈ vs) (hl : ds.length ≤ 16777216)
    (h1 : Post g W σ μ1 H1 ((lcD gt ft fe gd ds (wipeE env vs) st1).b fun xs st => mkL b xs st) (VP g Q)) (D₀ : Addr) (hD : H1 D₀ = none) :
    ∃ Wv : Nat → Nat → Hp → Prop, (∃ m, Wv 0 m (upd H1 D₀ (.lst []))) ∧ ∀ i m H, Wv i m H →
      (J.stop i H ∧ Q (.ref D₀) H) ∨ (J.go i H ∧ ∃ Nx : Hp → Prop, (∀ H', Nx H' → ∃ m', m' < m ∧ Wv (i + 1) m' H') ∧ ∀ x H', J.yld i H x H' → tDG g is gt x (L2.wipe σ vs) H' fun σ2 H2 => L2.wipe σ2 vs = L2.wipe σ vs ∧ tDT g W0 ft σ2 H2 fun b H3 =>
        if b = true then tDE g W0 fe σ2 H3 fun y H4 => ∃ acc, H4 D₀ = some (.lst acc) ∧ acc.length < sizeLine ∧ Nx (upd H4 D₀ (.lst (acc ++ [y]))) else Nx H3) := by
  have nD : ∀ a ∈ μ1.h, a ≠ D₀ := fun a ha => S1.hne hD ha
  have nD' : D₀ ∉ μ1.h := fun z => nD _ z rfl
  obtain ⟨m1, h1'⟩ := μ1
  refine ⟨fun i m H => m = ds.length - i ∧ i ≤ ds.length ∧ ∃ (μm : List Addr) (st : Store) (acc : List D) (vacc : List V), Le ⟨m1, h1'⟩ H1 ⟨μm, h1'⟩ H ∧ RelS g ⟨μm, D₀ :: h1'⟩ H st ∧ RelE g ⟨μm, D₀ :: h1'⟩ H env σ ∧ ItOk g J ds gd ⟨μm, D₀ :: h1'⟩ H ∧ H D₀ = some (.lst vacc) ∧ Reps g ⟨μm, D₀ :: h1'⟩ H acc vacc ∧ acc.length ≤ i ∧
      Post g W σ ⟨m1, h1'⟩ H1 ((lcD gt ft fe gd (ds.drop i) (wipeE env vs) st).b fun xs st => mkL b (acc ++ xs) st) (VP g Q),
    ⟨ds.length, by simp, Nat.zero_le _, m1, st1, [], [], le_new S1 hD, S1.hide hD, E1.lw (lw_hide S1 hD), hJ.le (lw_hide S1 hD), upd_same, rfl, Nat.zero_le _, h1⟩, ?_⟩
  rintro i m H ⟨rfl, hi, μm, st, acc, vacc, L, S, E, hJ, hH, ra, hal, q⟩
  by_cases hlt : i < ds.length
  · rw [List.drop_eq_getElem_cons hlt] at q
    have q : Post g W σ ⟨m1, h1'⟩ H1 ((if gdOk gd st = true then (match gt ds[i] (wipeE env vs) with
      | none => R.bad
      | some env1 => (ft env1 st).b fun b st => if b = true then (fe env1 st).b fun x st => (lcD gt ft fe gd (ds.drop (i + 1)) (wipeE env vs) st).b fun xs st => .ok (x :: xs) st else lcD gt ft fe gd (ds.drop (i + 1)) (wipeE env vs) st) else R.bad).b fun xs st => mkL b (acc ++ xs) st) (VP g Q) := q
    split at q
    · rename_i hgd
      obtain ⟨hgo, hy⟩ := (hJ ⟨μm, D₀ :: h1'⟩ H st Lw.refl S hgd).1 i ds[i] (List.getElem?_eq_getElem hlt)
      refine .inr ⟨hgo, fun H' => ds.length - (i + 1) = ds.length - (i + 1) ∧ i + 1 ≤ ds.length ∧ ∃ (μm : List Addr) (st : Store) (acc : List D) (vacc : List V), Le ⟨m1, h1'⟩ H1 ⟨μm, h1'⟩ H' ∧ RelS g ⟨μm, D₀ :: h1'⟩ H' st ∧ RelE g ⟨μm, D₀ :: h1'⟩ H' env σ ∧ ItOk g J ds gd ⟨μm, D₀ :: h1'⟩ H' ∧ H' D₀ = some (.lst vacc) ∧ Reps g ⟨μm, D₀ :: h1'⟩ H' acc vacc ∧ acc.length ≤ i + 1 ∧
        Post g W σ ⟨m1, h1'⟩ H1 ((lcD gt ft fe gd (ds.drop (i + 1)) (wipeE env vs) st).b fun xs st => mkL b (acc ++ xs) st) (VP g Q), fun H' w => ⟨ds.length - (i + 1), by omega, w⟩, fun x H' y => ?_⟩
      obtain ⟨Lb, S2, r2⟩ := hy x H' y
      cases e : gt ds[i] (wipeE env vs) with
      | none => rw [e] at q; exact q.elim
      | some env2 =>
        rw [e] at q
        refine ⟨⟨μm, D₀ :: h1'⟩, wipeE env vs, st, ds[i], S2, (E.le Lb).wipe vs, r2, env2, e, fun σ2 E2 bt => ⟨bt.wipe hv, ⟨μm, D₀ :: h1'⟩, env2, st, S2, E2, ?_⟩⟩
        have q : Post g W σ ⟨m1, h1'⟩ H1 (((ft env2 st).b fun b st => if b = true then (fe env2 st).b fun x st => (lcD gt ft fe gd (ds.drop (i + 1)) (wipeE env vs) st).b fun xs st => .ok (x :: xs) st else lcD gt ft fe gd (ds.drop (i + 1)) (wipeE env vs) st).b fun xs st => mkL b (acc ++ xs) st) (VP g Q) := q
        generalize ft env2 st = rt at q ⊢
        cases rt with
        | ex c st3 => exact q.elim
        | bad => exact q.elim
        | ok bb st3 =>
          intro μ3 H3 L3 S3
          obtain ⟨m3, h3⟩ := μ3
          obtain rfl : h3 = D₀ :: h1' := L3.hh
          have L23 := Lb.trans L3
          cases bb with
          | false =>
            rw [if_neg Bool.false_ne_true]
            exact ⟨rfl, hlt, m3, st3, acc, vacc, le_over rfl hD L L23.toLw (fun a ha => L23.hk a (List.mem_cons_of_mem _ ha)), S3, E.le L23, hJ.le L23.toLw, (L23.hk D₀ List.mem_cons_self).trans hH, ra.le L23, by omega, q⟩
          | true =>
            rw [if_pos rfl]
            refine ⟨⟨m3, D₀ :: h1'⟩, env2, st3, S3, E2.le L3, ?_⟩
            have q : Post g W σ ⟨m1, h1'⟩ H1 (((fe env2 st3).b fun x st => (lcD gt ft fe gd (ds.drop (i + 1)) (wipeE env vs) st).b fun xs st => .ok (x :: xs) st).b fun xs st => mkL b (acc ++ xs) st) (VP g Q) := q
            generalize fe env2 st3 = re at q ⊢
            cases re with
            | ex c st4 => exact q.elim
            | bad => exact q.elim
            | ok y st4 =>
              intro μ4 H4 L4 S4 v rv
              obtain ⟨m4, h4⟩ := μ4
              obtain rfl : h4 = D₀ :: h1' := L4.hh
              have L24 := L23.trans L4
              have h4D : H4 D₀ = some (.lst vacc) := (L24.hk D₀ List.mem_cons_self).trans hH
              have gr := le_grow (μ := ⟨m4, h1'⟩) (p := D₀) (o := .lst (vacc ++ [v])) S4
              have L25 := L24.toLw.trans gr
              have q : Post g W σ ⟨m1, h1'⟩ H1 (((lcD gt ft fe gd (ds.drop (i + 1)) (wipeE env vs) st4).b fun xs st => .ok (y :: xs) st).b fun xs st => mkL b (acc ++ xs) st) (VP g Q) := q
              rw [R.b_b] at q
              refine ⟨vacc, h4D, ?_, rfl, hlt, m4, st4, acc ++ [y], vacc ++ [v], le_over rfl hD L L25 (fun a ha => (L2.upd_ne (nD a ha)).trans (L24.hk a (List.mem_cons_of_mem _ ha))), (RelS.grow (μ := ⟨m4, h1'⟩) S4 h4D), E.lw L25, hJ.le L25, upd_same, (ra.lw L25).append ⟨v, [], rfl, rv.lw gr, rfl⟩, by simp; omega, ?_⟩
              · rw [← ra.len, sizeLine_eq]
                omega
              · simp only [R.b_ok] at q
                simp only [List.append_assoc, List.singleton_append]
                exact q
    · exact q.elim
  · have hi2 : i = ds.length := by omega
    subst hi2
    rw [List.drop_length] at q
    have q : Post g W σ ⟨m1, h1'⟩ H1 ((if gdOk gd st = true then R.ok [] st else .bad).b fun xs st => mkL b (acc ++ xs) st) (VP g Q) := q
    split at q
    · rename_i hgd
      have q : Post g W σ ⟨m1, h1'⟩ H1 (mkL b (acc ++ []) st) (VP g Q) := q
      rw [List.append_nil] at q
      refine .inl ⟨(hJ _ H st Lw.refl S hgd).2, ?_⟩
      cases b with
      | false => exact q ⟨μm, h1'⟩ H L (RelS.show (μ := ⟨μm, h1'⟩) S) _ ⟨D₀, vacc, rfl, ⟨⟨(S.hid D₀ List.mem_cons_self).1, nD'⟩, hH⟩, ra.lw (lw_show (μ := ⟨μm, h1'⟩))⟩
      | true =>
        refine q ⟨μm ++ [D₀], h1'⟩ H (le_adopt hD L) (S.adopt hH ra nD') _ ⟨D₀, rfl, ?_⟩
        have sl : μm.length = st.length := S.len
        show (μm ++ [D₀])[st.length]? = some D₀
        rw [← sl]
        simp
    · exact q.elim
theorem pd_lc (b : Bool) {elt tg iter : Expr} {ifs : List Expr} {scope : Scope} {own : List (Str × Nat)} {fi : DI} {is : List Nat} {gt : DG} {ft : DT} {fe : DE} (O : Ok X g W k) (hi : PID X g W tg iter fi) (ok : BlkOk X.N X.env.scope scope own)
    (hg : ∀ (s : Shared) (H : Hp) (C : Addr) (cl : List (Str × Addr)) (fp : List Addr), PGD (X.blk s H scope (compEnvC scope cl C X.env) fp) g tg is gt) (ht : ∀ (s : Shared) (H : Hp) (C : Addr) (cl : List (Str × Addr)) (fp : List Addr), PTsD (X.blk s H scope (compEnvC scope cl C X.env) fp) g W0 ifs ft)
    (he : ∀ (s : Shared) (H : Hp) (C : Addr) (cl : List (Str × Addr)) (fp : List Addr), PD (X.blk s H scope (compEnvC scope cl C X.env) fp) g W0 elt fe) (hs : ∀ x, foldedSetIterable iter X.env x = pure x := by intro _; rfl) (hv : ∀ i ∈ is, i ∈ own.map (·.2) := by decide) :
    PD X g W (.ListComp elt [⟨tg, iter, ifs, 0⟩] scope pos) (dLc b fi gt ft fe (own.map (·.2))) :=
  PE.imp (pe_lc O.calm O.nd hi ok hg ht he hs) fun σ H Q ⟨μ, env, st, S, E, q⟩ => by
    refine bindI S E q fun μ1 H1 p st1 J L1 S1 E1 hJ h1 => ?_
    split at h1
    · rename_i hl
      exact fun D hD => lc_ok S1 E1 hJ hv hl h1 D hD
    · exact h1.elim
theorem s_lc (b : Bool) {elt tg iter : Expr} {ifs : List Expr} {scope : Scope} {own : List (Str × Nat)} {fi : DI} {is : List Nat} {gt : DG} {ft : DT} {fe : DE} {i : Nat} {y : Str} {py spos : Pos} (O : Ok X g W k) (hi : PID X g W tg iter fi) (ok : BlkOk X.N X.env.scope scope own)
    (hg : ∀ (s : Shared) (H : Hp) (C : Addr) (cl : List (Str × Addr)) (fp : List Addr), PGD (X.blk s H scope (compEnvC scope cl C X.env) fp) g tg is gt) (ht : ∀ (s : Shared) (H : Hp) (C : Addr) (cl : List (Str × Addr)) (fp : List Addr), PTsD (X.blk s H scope (compEnvC scope cl C X.env) fp) g W0 ifs ft)
    (he : ∀ (s : Shared) (H : Hp) (C : Addr) (cl : List (Str × Addr)) (fp : List Addr), PD (X.blk s H scope (compEnvC scope cl C X.env) fp) g W0 elt fe)
    (hsw : swapsWith (.ListComp elt [⟨tg, iter, ifs, 0⟩] scope pos) (some (.Name y py)) spos.line X.env = pure true) (hy : X.N[i]? = some y := by rfl) (hyl : X.env.scope.names.lookup y = some .local := by rfl) (hs : ∀ x, foldedSetIterable iter X.env x = pure x := by intro _; rfl) (hv : ∀ i ∈ is, i ∈ own.map (·.2) := by decide) :
    PSD X g W (.Assign [.Name y py] (.ListComp elt [⟨tg, iter, ifs, 0⟩] scope pos) spos) (dAsg (dLc b fi gt ft fe (own.map (·.2))) (dgName i)) :=
  PS.imp (ps_setLc O.calm O.nd hy hyl hsw hi ok hg ht he hs) fun Dn σ H ⟨μ, env, st, S, E, q⟩ => by
    have q : PostS g W μ H ((((fi env st).bind fun p st => if p.1.length ≤ 16777216 then (lcD gt ft fe p.2 p.1 (wipeE env (own.map (·.2))) st).b fun xs st => mkL b xs st else .bad)).s env fun d st => .nx (env.set i (some d)) st) Dn := q
    have q2 : Post g W σ μ H ((fi env st).bind fun p st => if p.1.length ≤ 16777216 then (lcD gt ft fe p.2 p.1 (wipeE env (own.map (·.2))) st).b fun xs st => mkL b xs st else .bad) (VP g fun x H1 => gName i x σ H1 Dn.nx) := by
      generalize ((fi env st).bind fun p st => if p.1.length ≤ 16777216 then (lcD gt ft fe p.2 p.1 (wipeE env (own.map (·.2))) st).b fun xs st => mkL b xs st else R.bad) = r at q ⊢
      cases r with
      | ok d st1 => exact fun μ1 H1 L S1 v rv => q μ1 H1 _ L S1 ((E.le L).set i rv)
      | ex c st1 => exact fun μ1 H1 L S1 => q μ1 H1 σ L S1 (E.le L)
      | bad => exact q
    refine bindI S E q2 fun μ1 H1 p st1 J L1 S1 E1 hJ h1 => ?_
    split at h1
    · rename_i hl
      exact fun D hD => lc_ok S1 E1 hJ hv hl h1 D hD
    · exact h1.elim
end
end G

namespace G
open PySem L2
/-! ### built-ins -/
def CallD (X : Cx) (g : GC) (W : WX) (f : Value) (h : List D → Store → R D) : Prop := ∃ r, CallR X f r ∧ ∀ (σ : L2.St) (μ : Mp) (H : Hp) (st : Store) (ds : List D) (vs : List V) (Q : VK), RelS g μ H st → Reps g μ H ds vs → Post g W σ μ H (h ds st) (VP g Q) → r vs H Q
section
variable {X : Cx} {g : GC} {W : WX} {k : Nat} {pos : Pos}
theorem callB_ok {r : List V → Hp → VK → Prop} {h : List D → Store → R D} {fa : DA} (hr : ∀ (σ : L2.St) (μ : Mp) (H : Hp) (st : Store) (ds : List D) (vs : List V) (Q : VK), RelS g μ H st → Reps g μ H ds vs → Post g W σ μ H (h ds st) (VP g Q) → r vs H Q) {σ : L2.St} {H : Hp} {Q : VK}
    (q : tDE g W (dCall h fa) σ H Q) : tCB r (tDA g W fa) σ H Q := by
  obtain ⟨μ, env, st, S, E, q⟩ := q
  exact bindA S E q fun μ1 H1 ds st1 vs L S1 E1 r1 h1 => hr σ μ1 H1 st1 ds vs Q S1 r1 h1
theorem pd_callB {x : Str} {id : String} {p : Pos} {e : Expr} {es : List Expr} {h : List D → Store → R D} {fa : DA} (hc : CallD X g W (.builtin id) h) (hm : X.mg x = none) (hv : bootBuiltins x = some (.builtin id)) (ha : PAD X g W (e :: es) fa) (hg : Gl X x := by rfl)
    (hn : x ≠ "__name__" := by decide) (hdb : (x == ("__debug__" : Str)) = false := by decide) (he : starEach (e :: es) X.env = (false, eval e X.env) :: starEach es X.env := by rfl) (hpl : (backTo pos (starEach es X.env)).any (·.1) = false := by rfl) : PD X g W (.Call (.Name x p) (e :: es) [] pos) (dCall h fa) := by
  obtain ⟨r, h1, h2⟩ := hc
  exact PE.imp (pe_callB h1 hg hm hv ha hn hdb he hpl) fun σ H Q q => callB_ok h2 q
theorem pd_callT {x : Str} {id : String} {p : Pos} {e : Expr} {es : List Expr} {h : List D → Store → R D} {fa : DA} (hc : CallD X g W (.type id) h) (hm : X.mg x = none) (hv : bootBuiltins x = some (.type id)) (ha : PAD X g W (e :: es) fa) (hg : Gl X x := by rfl)
    (hn : x ≠ "__name__" := by decide) (hdb : (x == ("__debug__" : Str)) = false := by decide) (he : starEach (e :: es) X.env = (false, eval e X.env) :: starEach es X.env := by rfl) (hpl : (backTo pos (starEach es X.env)).any (·.1) = false := by rfl) : PD X g W (.Call (.Name x p) (e :: es) [] pos) (dCall h fa) := by
  obtain ⟨r, h1, h2⟩ := hc
  exact PE.imp (pe_callTy h1 hg hm hv ha hn hdb he hpl) fun σ H Q q => callB_ok h2 q
theorem reps1 {μ : Mp} {H : Hp} {d : D} {vs : List V} (r : Reps g μ H [d] vs) : ∃ v, vs = [v] ∧ Rep g μ H d v := by
  obtain ⟨v, vr, e, h1, h2⟩ := r
  rw [show vr = [] from h2] at e
  exact ⟨v, e, h1⟩
theorem reps2 {μ : Mp} {H : Hp} {d d' : D} {vs : List V} (r : Reps g μ H [d, d'] vs) : ∃ v v', vs = [v, v'] ∧ Rep g μ H d v ∧ Rep g μ H d' v' := by
  obtain ⟨v, vr, e, h1, h2⟩ := r
  obtain ⟨v', e', h3⟩ := reps1 h2
  rw [e'] at e
  exact ⟨v, v', e, h1, h3⟩
/-- a call of one value -/
theorem call1 {f : Value} {r : List V → Hp → VK → Prop} (hc : CallR X f r) {h : D → Store → R D} (hr : ∀ (σ : L2.St) (μ : Mp) (H : Hp) (st : Store) (d : D) (v : V) (Q : VK), RelS g μ H st → Rep g μ H d v → Post g W σ μ H (h d st) (VP g Q) → r [v] H Q) :
    CallD X g W f (fun ds st => match ds with
      | [d] => h d st
      | _ => .bad) := ⟨r, hc, fun σ μ H st ds vs Q S rs q => by
  match ds, q with
  | [], q => exact q.elim
  | [d], q => obtain ⟨v, e, r1⟩ := reps1 rs; rw [e]; exact hr σ μ H st d v Q S r1 q
  | _ :: _ :: _, q => exact q.elim⟩
/-- a call of two values -/
theorem call2 {f : Value} {r : List V → Hp → VK → Prop} (hc : CallR X f r) {h : D → D → Store → R D} (hr : ∀ (σ : L2.St) (μ : Mp) (H : Hp) (st : Store) (d e : D) (v u : V) (Q : VK), RelS g μ H st → Rep g μ H d v → Rep g μ H e u → Post g W σ μ H (h d e st) (VP g Q) → r [v, u] H Q) :
    CallD X g W f (fun ds st => match ds with
      | [d, e] => h d e st
      | _ => .bad) := ⟨r, hc, fun σ μ H st ds vs Q S rs q => by
  match ds, q with
  | [], q => exact q.elim
  | [_], q => exact q.elim
  | [d, d2], q => obtain ⟨v, v2, e, r1, r2⟩ := reps2 rs; rw [e]; exact hr σ μ H st d d2 v v2 Q S r1 r2 q
  | _ :: _ :: _ :: _, q => exact q.elim⟩
def bAbs : List D → Store → R D := fun ds st => match ds with
  | [d] => (match d with
    | .int i => .ok (.int (if i < 0 then -i else i)) st
    | _ => .bad)
  | _ => .bad
theorem cAbs : CallD X g W (.builtin "abs") bAbs := call1 call_abs fun σ μ H st d v Q S r q => by
  cases d with
  | int i => exact ⟨i, by rw [show v = V.int i from r], q.here S _ rfl⟩
  | _ => exact q.elim
def bMax2 : List D → Store → R D := fun ds st => match ds with
  | [d, e] => (match d, e with
    | .int i, .int j => .ok (.int (if j > i then j else i)) st
    | _, _ => .bad)
  | _ => .bad
def bMin2 : List D → Store → R D := fun ds st => match ds with
  | [d, e] => (match d, e with
    | .int i, .int j => .ok (.int (if j < i then j else i)) st
    | _, _ => .bad)
  | _ => .bad
theorem cMax2 (O : Ok X g W k) : CallD X g W (.builtin "max") bMax2 := call2 (call_max2 O.calm) fun σ μ H st d e v u Q S r1 r2 q => by
  cases d with
  | int i =>
    cases e with
    | int j => exact ⟨i, j, by rw [show v = V.int i from r1, show u = V.int j from r2], q.here S _ rfl⟩
    | _ => exact q.elim
  | _ => exact q.elim
theorem cMin2 (O : Ok X g W k) : CallD X g W (.builtin "min") bMin2 := call2 (call_min2 O.calm) fun σ μ H st d e v u Q S r1 r2 q => by
  cases d with
  | int i =>
    cases e with
    | int j => exact ⟨i, j, by rw [show v = V.int i from r1, show u = V.int j from r2], q.here S _ rfl⟩
    | _ => exact q.elim
  | _ => exact q.elim
def bInt : List D → Store → R D := fun ds st => match ds with
  | [d] => (match d with
    | .int i => .ok (.int i) st
    | .bl b => .ok (.int (if b = true then 1 else 0)) st
    | _ => .bad)
  | _ => .bad
theorem cInt : CallD X g W (.type "int") bInt := call1 call_int1 fun σ μ H st d v Q S r q => by
  cases d with
  | int i => exact .inl ⟨i, by rw [show v = V.int i from r], q.here S _ rfl⟩
  | bl b => exact .inr ⟨b, by rw [show v = V.bl b from r], q.here S _ rfl⟩
  | _ => exact q.elim
/-- len -/
def bLen : List D → Store → R D := fun ds st => match ds with
  | [d] => (match d with
    | .str x => if x.length ≤ 16777216 then .ok (.int (x.length : Nat)) st else .bad
    | d => match seqA st d with
      | some ds => .ok (.int (ds.length : Nat)) st
      | none => .bad)
  | _ => .bad
theorem cLen (O : Ok X g W k) : CallD X g W (.builtin "len") bLen := call1 call_len fun σ μ H st d v Q S r q => by
  rw [O.hK]
  split at q
  · rename_i x
    split at q
    · rename_i hl
      exact ⟨v, x.length, rfl, by rw [show v = V.str x from r]; exact ⟨sizeLine_le hl, rfl⟩, q.here S _ rfl⟩
    · exact q.elim
  · split at q
    · rename_i ds hs
      obtain ⟨a, vs, e, h1, r1⟩ := seqA_ok S r hs
      refine ⟨v, ds.length, rfl, ?_, q.here S _ rfl⟩
      rw [e]
      rcases h1 with h1 | h1
      · exact .inl ⟨vs, h1, r1.len⟩
      · exact .inr ⟨vs, h1, r1.len⟩
    · exact q.elim
/-- sum of ints, a list or a tuple -/
theorem preSum_get (ns : List Int) : ∀ j, preSum (fun i => ns.getD i 0) j = (ns.take j).sum
  | 0 => by simp [preSum]
  | j + 1 => by
    rw [preSum, preSum_get ns j]
    by_cases h : j < ns.length
    · rw [List.take_succ_eq_append_getElem h, List.sum_append]
      simp [List.getD, List.getElem?_eq_getElem h]
    · rw [List.take_of_length_le (by omega), List.take_of_length_le (by omega)]
      simp [List.getD, List.getElem?_eq_none (by omega : ns.length ≤ j)]
theorem cr_sumT (hc : X.calm = true) : CallR X (.builtin "sum") (fun vs H Q => ∃ (a : Addr) (ns : List Int), vs = [V.ref a] ∧ SqT X.K H a (ns.map V.int) ∧ Q (.int ns.sum) H) := by
  intro pins s σ H vs us Q I r h
  obtain ⟨a, ns, rfl, hs, q⟩ := h
  obtain ⟨u, rfl, ru⟩ := vals1 r
  obtain rfl : u = Value.ref a := ru
  obtain ⟨its, rv, pt, _⟩ := I.tuple hs
  have pt' : s.heap.IsTuple a its.toArray := pt
  have hlt : a < s.heap.objs.size := pt.lt
  have hint := intsAre_of rv
  refine call_sum_walkG (wpAny_pyIter_tuple pt' ⟨s.heap.objs.size, _, _, _, _, _, fun i => ns.getD i 0, rfl, Walks.tuple (A := X.A.in1) (I.ok.hd hc) s.heap.objs.size a (Nat.ne_of_lt hlt) its.toArray, ⟨⟨_, Heap.get?_push_size _ rfl, rfl, rfl⟩, ?_⟩, fun b hb => ?_, fun i v hv => ?_, fun h' tk t' hk => ?_⟩)
  · exact pt'.at fun o e => Heap.get?_push_of_some _ e
  · show b < (s.heap.push _).objs.size
    rw [Heap.size_push]
    rcases List.mem_cons.mp hb with z | z
    · rw [z]; exact Nat.lt_succ_self _
    · rw [List.mem_singleton.mp z]; exact Nat.lt_succ_of_lt hlt
  · exact PyProof.Rows.IntsAre.int_at hint i v (by simpa using hv)
  · have hsum : preSum (fun i => ns.getD i 0) its.toArray.size = ns.sum := by
      rw [preSum_get, List.take_of_length_le]
      rw [List.size_toArray, ← rv.length, List.length_map]
      exact Nat.le_refl _
    rw [hsum]
    exact ⟨.int ns.sum, H, I.kept fun b o e => hk b o (by simp; intro z; rw [z] at e; exact Nat.lt_irrefl _ (Heap.lt_size e)) (Heap.get?_push_of_some _ e), ⟨_, rfl⟩, q⟩
theorem callR_or {f : Value} {r r' : List V → Hp → VK → Prop} (h : CallR X f r) (h' : CallR X f r') : CallR X f (fun xs H Q => r xs H Q ∨ r' xs H Q) := fun pins s σ H xs us Q I rs q => q.elim (h pins s σ H xs us Q I rs) (h' pins s σ H xs us Q I rs)
def bSum : List D → Store → R D := fun ds st => match ds with
  | [d] => (match seqA st d with
    | some ds => (match intsD ds with
      | some ns => .ok (.int ns.sum) st
      | none => .bad)
    | none => .bad)
  | _ => .bad
theorem cSum (O : Ok X g W k) : CallD X g W (.builtin "sum") bSum := call1 (callR_or (cr_sum O.calm) (cr_sumT O.calm)) fun σ μ H st d v Q S r q => by
  rw [O.hK]
  split at q
  · rename_i ds hs
    split at q
    · rename_i ns hn
      obtain ⟨a, vs, e, h1, r1⟩ := seqA_ok S r hs
      have e2 := ints_ok hn r1
      subst e2
      rcases h1 with h1 | h1
      · exact .inl ⟨a, ns, by rw [e], h1, q.here S _ rfl⟩
      · exact .inr ⟨a, ns, by rw [e], h1, q.here S _ rfl⟩
    · exact q.elim
  · exact q.elim
/-- list(x), tuple(x) -/
def bList (b : Bool) : List D → Store → R D := fun ds st => match ds with
  | [d] => (match seqA st d with
    | some ds => mkL b ds st
    | none => .bad)
  | _ => .bad
theorem cList {b : Bool} (O : Ok X g W k) : CallD X g W (.type "list") (bList b) := call1 call_list_of fun σ μ H st d v Q S r q => by
  rw [O.hK]
  split at q
  · rename_i ds hs
    obtain ⟨a, vs, e, h1, r1⟩ := seqA_ok S r hs
    exact ⟨a, vs, by rw [e], h1, fun l hl => mkL_ok S r1 q hl⟩
  · exact q.elim
def bTuple : List D → Store → R D := fun ds st => match ds with
  | [d] => (match d with
    | .tup ds => .ok (.tup ds) st
    | d => match seqL st d with
      | some ds => .ok (.tup ds) st
      | none => .bad)
  | _ => .bad
theorem cTuple (O : Ok X g W k) : CallD X g W (.type "tuple") bTuple := call1 call_tuple_of fun σ μ H st d v Q S r q => by
  rw [O.hK]
  split at q
  · obtain ⟨a, vs, e, h1, r1⟩ := seqT_ok r rfl
    exact ⟨a, vs, by rw [e], .inr ⟨h1, by rw [← e]; exact q.here S _ r⟩⟩
  · split at q
    · rename_i ds hs
      obtain ⟨a, vs, e, h1, r1⟩ := seqL_ok S r hs
      exact ⟨a, vs, by rw [e], .inl ⟨h1, fun l hl => mkT_ok S r1 q hl⟩⟩
    · exact q.elim
/-- max, min of a list of ints -/
def maxI : List Int → Option Int
  | [] => none
  | n :: ns => some (ns.foldl max n)
def minI : List Int → Option Int
  | [] => none
  | n :: ns => some (ns.foldl min n)
theorem foldl_max (ns : List Int) : ∀ n : Int, (ns.foldl max n = n ∨ ns.foldl max n ∈ ns) ∧ n ≤ ns.foldl max n ∧ ∀ y ∈ ns, y ≤ ns.foldl max n := by
  induction ns with
  | nil => intro n; simp
  | cons m ns ih =>
    intro n
    obtain ⟨h1, h2, h3⟩ := ih (max n m)
    simp only [List.foldl_cons]
    refine ⟨?_, by omega, fun y hy => ?_⟩
    · rcases h1 with h1 | h1
      · by_cases e : n ≤ m
        · right; rw [h1, Int.max_eq_right e]; exact List.mem_cons_self
        · left; rw [h1, Int.max_eq_left (by omega)]
      · right; exact List.mem_cons_of_mem _ h1
    · rcases List.mem_cons.mp hy with e | e
      · rw [e]; omega
      · exact h3 y e
theorem foldl_min (ns : List Int) : ∀ n : Int, (ns.foldl min n = n ∨ ns.foldl min n ∈ ns) ∧ ns.foldl min n ≤ n ∧ ∀ y ∈ ns, ns.foldl min n ≤ y := by
  induction ns with
  | nil => intro n; simp
  | cons m ns ih =>
    intro n
    obtain ⟨h1, h2, h3⟩ := ih (min n m)
    simp only [List.foldl_cons]
    refine ⟨?_, by omega, fun y hy => ?_⟩
    · rcases h1 with h1 | h1
      · by_cases e : m ≤ n
        · right; rw [h1, Int.min_eq_right e]; exact List.mem_cons_self
        · left; rw [h1, Int.min_eq_left (by omega)]
      · right; exact List.mem_cons_of_mem _ h1
    · rcases List.mem_cons.mp hy with e | e
      · rw [e]; omega
      · exact h3 y e
def bMaxL : List D → Store → R D := fun ds st => match ds with
  | [d] => (match seqL st d with
    | some ds => (match (intsD ds).bind maxI with
      | some n => .ok (.int n) st
      | none => .bad)
    | none => .bad)
  | _ => .bad
def bMinL : List D → Store → R D := fun ds st => match ds with
  | [d] => (match seqL st d with
    | some ds => (match (intsD ds).bind minI with
      | some n => .ok (.int n) st
      | none => .bad)
    | none => .bad)
  | _ => .bad
theorem cMaxL (O : Ok X g W k) : CallD X g W (.builtin "max") bMaxL := call1 (cr_max O.calm) fun σ μ H st d v Q S r q => by
  rw [O.hK]
  split at q
  · rename_i ds hs
    split at q
    · rename_i n hn
      obtain ⟨a, vs, e, h1, r1⟩ := seqL_ok S r hs
      cases hi : intsD ds with
      | none => rw [hi] at hn; cases hn
      | some ns =>
        rw [hi] at hn
        have e2 := ints_ok hi r1
        subst e2
        cases ns with
        | nil => cases hn
        | cons m ns =>
          cases hn
          obtain ⟨f1, f2, f3⟩ := foldl_max ns m
          refine ⟨a, m :: ns, by rw [e], h1, Nat.succ_pos _, fun x hx hy => ?_⟩
          have hx1 : ns.foldl max m ∈ m :: ns := f1.elim (fun z => by rw [z]; exact List.mem_cons_self) (List.mem_cons_of_mem _)
          have a1 := hy _ hx1
          have a2 : x ≤ ns.foldl max m := (List.mem_cons.mp hx).elim (fun z => by rw [z]; exact f2) (f3 x)
          rw [show x = ns.foldl max m by omega]
          exact q.here S _ rfl
    · exact q.elim
  · exact q.elim
theorem cMinL (O : Ok X g W k) : CallD X g W (.builtin "min") bMinL := call1 (cr_min O.calm) fun σ μ H st d v Q S r q => by
  rw [O.hK]
  split at q
  · rename_i ds hs
    split at q
    · rename_i n hn
      obtain ⟨a, vs, e, h1, r1⟩ := seqL_ok S r hs
      cases hi : intsD ds with
      | none => rw [hi] at hn; cases hn
      | some ns =>
        rw [hi] at hn
        have e2 := ints_ok hi r1
        subst e2
        cases ns with
        | nil => cases hn
        | cons m ns =>
          cases hn
          obtain ⟨f1, f2, f3⟩ := foldl_min ns m
          refine ⟨a, m :: ns, by rw [e], h1, Nat.succ_pos _, fun x hx hy => ?_⟩
          have hx1 : ns.foldl min m ∈ m :: ns := f1.elim (fun z => by rw [z]; exact List.mem_cons_self) (List.mem_cons_of_mem _)
          have a1 := hy _ hx1
          have a2 : ns.foldl min m ≤ x := (List.mem_cons.mp hx).elim (fun z => by rw [z]; exact f2) (f3 x)
          rw [show x = ns.foldl min m by omega]
          exact q.here S _ rfl
    · exact q.elim
  · exact q.elim
end
end G

namespace G
open PySem L2
/-! ### a def -/
def runB (n : Nat) (fb : DS) (args : List D) (st : Store) : R D := match fb (args.map some ++ List.replicate (n - args.length) none) st with
  | .nx _ st => .ok .non st
  | .rt d st => .ok d st
  | .ex c _ st => .ex c st
  | _ => .bad
abbrev bodyCx (P : Program) (w : World) (K : PySem.W.Frag) (mg : Str → Option Value) (base : Heap) (N : List Str) (qual : Str) (sc : Scope) (f : Addr) (cdv : Value) (A : Around) (outer : List PySem.Env) (s : Shared) (H : Hp) (E : XK) : Cx :=
  cxOf (L2.CX P w) P w K mg base N qual sc f cdv A outer s H E
abbrev WB (E : XK) : WX := fun cls d _ H => E cls d H
section
variable {P : Program} {w : World} {mg : Str → Option Value} {base : Heap} {g : GC}
theorem reps_env {μ : Mp} {H : Hp} {ds : List D} {vs : List V} (r : Reps g μ H ds vs) (n : Nat) : RelE g μ H (ds.map some ++ List.replicate (n - ds.length) none) (vs.map some ++ List.replicate (n - vs.length) none) := by
  refine ⟨by simp [r.len], fun i d h => ?_⟩
  by_cases hi : i < ds.length
  · rw [List.getElem?_append_left (by simpa using hi), List.getElem?_map] at h
    cases e : ds[i]? with
    | none => rw [e] at h; cases h
    | some d' =>
      rw [e] at h
      have h : d' = d := by cases h; rfl
      subst h
      obtain ⟨v, h1, h2⟩ := r.get e
      exact ⟨v, by rw [List.getElem?_append_left (by rw [List.length_map, ← r.len]; exact hi), List.getElem?_map, h1] <;> rfl, h2⟩
  · rw [List.getElem?_append_right (by simpa using hi), List.getElem?_replicate] at h
    split at h <;> cases h
/-- THE RULE of a def -/
theorem fn_d {x qual : Str} {st : Stmt} {fa : Addr} {fd : FuncData} {N ps : List Str} {j n : Nat} {fb : DS} (F : Fun g.K x qual st fa fd) (hm : mg x = some (.ref fa)) (S : FnScope N ps (defScope st)) (hb : Binds g.K fd ps []) (hn : ps.length = n)
    (body : ∀ (cdv : Value) (A : Around) (outer : List PySem.Env) (s : Shared) (H : Hp) (E : XK), Ok (bodyCx P w g.K mg base N qual (defScope st) fa cdv A outer s H E) g (WB E) j → PSsD (bodyCx P w g.K mg base N qual (defScope st) fa cdv A outer s H E) g (WB E) (defBody st) fb) :
    FnD P w mg base g (j + 1) x n (runB N.length fb) := by
  refine ⟨fa, fd, ps, hm, F.kp, hb, F.okX S (fun vs H Q E h => h.1.trans hn.symm) fun cdv A outer s H vs Q E hr h => ⟨_, body cdv A outer s H E ⟨rfl, takes_of rfl rfl rfl rfl, passes_of rfl, rfl, S.nd, hr⟩, ?_⟩⟩
  obtain ⟨hl, μ, st0, ds, S0, r, q⟩ := h
  refine ⟨μ, _, st0, S0, reps_env r N.length, ?_⟩
  unfold runB at q
  generalize fb (ds.map some ++ List.replicate (N.length - ds.length) none) st0 = rr at q ⊢
  cases rr with
  | nx env st1 => exact fun μ' H' σ' L S' _ => q μ' H' L S' _ rfl
  | rt d st1 => exact fun μ' H' v L S' rv => q μ' H' L S' v rv
  | bk env st1 => exact q.elim
  | ct env st1 => exact q.elim
  | ex c env st1 => exact fun μ' H' σ' L S' _ => q μ' H' L S'
  | bad => exact q.elim
theorem FnD.mono {j k : Nat} {x : Str} {n : Nat} {f : List D → Store → R D} (F : FnD P w mg base g j x n f) (h : j ≤ k) : FnD P w mg base g k x n f := by
  obtain ⟨fa, fd, ps, h1, h2, h3, h4⟩ := F
  exact ⟨fa, fd, ps, h1, h2, h3, h4.mono h⟩
/-- less is promised -/
theorem FnD.imp {j : Nat} {x : Str} {n : Nat} {f h : List D → Store → R D} (F : FnD P w mg base g j x n f)
    (hi : ∀ (E : XK) (Q : VK) (μ : Mp) (H : Hp) (st : Store) (ds : List D) (vs : List V), RelS g μ H st → Reps g μ H ds vs → Post g (WB E) [] μ H (h ds st) (VP g Q) → Post g (WB E) [] μ H (f ds st) (VP g Q)) : FnD P w mg base g j x n h := by
  obtain ⟨fa, fd, ps, h1, h2, h3, h4⟩ := F
  exact ⟨fa, fd, ps, h1, h2, h3, h4.imp fun vs H Q E ⟨hl, μ, st, ds, S, r, q⟩ => ⟨hl, μ, st, ds, S, r, hi E Q μ H st ds vs S r q⟩⟩
/-- the same function, said otherwise -/
theorem FnD.eq {j : Nat} {x : Str} {n : Nat} {f h : List D → Store → R D} (F : FnD P w mg base g j x n f) (e : ∀ ds st, h ds st ≠ .bad → f ds st = h ds st) : FnD P w mg base g j x n h := F.imp fun E Q μ H st ds vs S r q => by
  by_cases hb : h ds st = .bad
  · rw [hb] at q; exact q.elim
  · rw [e ds st hb]; exact q
end

/-! ### what a def made is let go -/
mutual
/-- no thing of the store from the n-th on -/
def D.cl (n : Nat) : D → Bool
  | .tup xs => D.cls n xs
  | .lst xs => D.cls n xs
  | .dic _ xs => D.cls n xs
  | .ref m => decide (m < n)
  | _ => true
def D.cls (n : Nat) : List D → Bool
  | [] => true
  | x :: xs => D.cl n x && D.cls n xs
end
def fsCl (n : Nat) : List (Str × D) → Bool
  | [] => true
  | (_, d) :: fs => d.cl n && fsCl n fs
def SO.cl (n : Nat) : SO → Bool
  | .lst xs => D.cls n xs
  | .dic _ xs => D.cls n xs
  | .ins _ fs => fsCl n fs
def stCl (n : Nat) : List SO → Bool
  | [] => true
  | o :: os => o.cl n && stCl n os
/-- a new list that is handed back is nobody's any more -/
def letGo (n : Nat) (st : Store) : D → D
  | .ref m => if n ≤ m then (match lstAt st m with
    | some ds => .lst ds
    | none => .ref m) else .ref m
  | d => d
def trim (f : List D → Store → R D) : List D → Store → R D := fun ds st => match f ds st with
  | .ok d st' => if (letGo st.length st' d).cl st.length = true ∧ stCl st.length (st'.take st.length) = true ∧ st.length ≤ st'.length then .ok (letGo st.length st' d) (st'.take st.length) else .bad
  | .ex c st' => if stCl st.length (st'.take st.length) = true ∧ st.length ≤ st'.length then .ex c (st'.take st.length) else .bad
  | .bad => .bad
section
variable {g : GC} {μ μ' : Mp} {H : Hp}
mutual
theorem cl_rep (hm : ∀ i : Nat, i < μ.m.length → μ'.m[i]? = μ.m[i]?) (ho : ∀ a, μ'.out a → μ.out a) : ∀ {d : D} {v : V}, d.cl μ.m.length = true → Rep g μ' H d v → Rep g μ H d v
  | .non, _, _, r => r
  | .bl _, _, _, r => r
  | .int _, _, _, r => r
  | .str _, _, _, r => r
  | .tup ds, v, h, r => by
    obtain ⟨a, vs, e, h1, h2⟩ := r
    refine ⟨a, vs, e, ?_, cls_rep hm ho h h2⟩
    rcases h1 with ⟨n, q⟩ | q
    · exact .inl ⟨ho a n, q⟩
    · exact .inr q
  | .lst ds, v, h, r => by
    obtain ⟨a, vs, e, ⟨n, q⟩, h2⟩ := r
    exact ⟨a, vs, e, ⟨ho a n, q⟩, cls_rep hm ho h h2⟩
  | .dic ks ds, v, h, r => by
    obtain ⟨a, vs, o, e, n, q, h1, h3, h2⟩ := r
    exact ⟨a, vs, o, e, ho a n, q, h1, h3, cls_rep hm ho h h2⟩
  | .ref n, v, h, r => by
    obtain ⟨a, e, q⟩ := r
    have h : decide (n < μ.m.length) = true := h
    rw [decide_eq_true_eq] at h
    exact ⟨a, e, (hm n h).symm.trans q⟩
  | .fn _, _, _, r => r
  | .lam n, v, h, r => by
    obtain ⟨f, c, l, pm, ctv, e, e1, ⟨n1, h1⟩, n2, h2⟩ := r
    exact ⟨f, c, l, pm, ctv, e, e1, ⟨ho f n1, h1⟩, ho c n2, h2⟩
  | .scr ns, v, h, r => by
    obtain ⟨a, e, q⟩ := r
    refine ⟨a, e, ?_⟩
    rcases q with ⟨n, q⟩ | q
    · exact .inl ⟨ho a n, q⟩
    · exact .inr q
theorem cls_rep (hm : ∀ i : Nat, i < μ.m.length → μ'.m[i]? = μ.m[i]?) (ho : ∀ a, μ'.out a → μ.out a) : ∀ {ds : List D} {vs : List V}, D.cls μ.m.length ds = true → Reps g μ' H ds vs → Reps g μ H ds vs
  | [], _, _, r => r
  | d :: ds, vs, h, r => by
    obtain ⟨v, vr, e, h1, h2⟩ := r
    have h : (D.cl μ.m.length d && D.cls μ.m.length ds) = true := h
    rw [Bool.and_eq_true] at h
    exact ⟨v, vr, e, cl_rep hm ho h.1 h1, cls_rep hm ho h.2 h2⟩
end
theorem fsCl_rep (hm : ∀ i : Nat, i < μ.m.length → μ'.m[i]? = μ.m[i]?) (ho : ∀ a, μ'.out a → μ.out a) : ∀ {fs : List (Str × D)} {gs : List (Str × V)}, fsCl μ.m.length fs = true → RepF g μ' H fs gs → RepF g μ H fs gs
  | [], _, _, r => r
  | (f, d) :: fs, vs, h, r => by
    obtain ⟨v, vr, e, h1, h2⟩ := r
    have h : (D.cl μ.m.length d && fsCl μ.m.length fs) = true := h
    rw [Bool.and_eq_true] at h
    exact ⟨v, vr, e, cl_rep hm ho h.1 h1, fsCl_rep hm ho h.2 h2⟩
theorem soCl_rep (hm : ∀ i : Nat, i < μ.m.length → μ'.m[i]? = μ.m[i]?) (ho : ∀ a, μ'.out a → μ.out a) {a : Addr} {so : SO} (h : so.cl μ.m.length = true) (r : RepO g μ' H a so) : RepO g μ H a so := by
  cases so with
  | lst ds => obtain ⟨vs, e, r⟩ := r; exact ⟨vs, e, cls_rep hm ho h r⟩
  | dic ks ds => obtain ⟨vs, o, e, d, l, r⟩ := r; exact ⟨vs, o, e, d, l, cls_rep hm ho h r⟩
  | ins C fs => obtain ⟨dx, gs, e, r⟩ := r; exact ⟨dx, gs, e, fsCl_rep hm ho h r⟩
theorem stCl_at : ∀ {os : List SO} {n i : Nat} {o : SO}, stCl n os = true → os[i]? = some o → o.cl n = true
  | [], _, _, _, _, h => by simp at h
  | o :: os, n, 0, _, h, e => by
    simp at e
    subst e
    have h : (o.cl n && stCl n os) = true := h
    exact (Bool.and_eq_true_iff.mp h).1
  | o :: os, n, i + 1, _, h, e => by
    have h : (o.cl n && stCl n os) = true := h
    exact stCl_at (Bool.and_eq_true_iff.mp h).2 (by simpa using e)
variable {P : Program} {w : World} {mg : Str → Option Value} {base : Heap}
theorem scope_ok {st st' : Store} {H' : Hp} (S : RelS g μ H st) (L : Le μ H μ' H') (S' : RelS g μ' H' st') (hl : st.length ≤ st'.length) (hc : stCl st.length (st'.take st.length) = true) :
    (∀ i : Nat, i < μ.m.length → μ'.m[i]? = μ.m[i]?) ∧ (∀ a, μ'.out a → μ.out a) ∧ Le μ H μ H' ∧ RelS g μ H' (st'.take st.length) := by
  have hm : ∀ i : Nat, i < μ.m.length → μ'.m[i]? = μ.m[i]? := fun i hi => by
    rw [List.getElem?_eq_getElem hi]
    exact L.pre i _ (List.getElem?_eq_getElem hi)
  have ho : ∀ a, μ'.out a → μ.out a := fun a n => ⟨fun z => by
    obtain ⟨i, hi⟩ := List.mem_iff_getElem?.mp z
    exact n.1 (List.mem_of_getElem? (L.pre i a hi)), fun z => n.2 (by rw [L.hh]; exact z)⟩
  refine ⟨hm, ho, ⟨⟨fun _ _ h => h, fun a u n r t => ⟨n, (L.keep a u n r t).2⟩, L.keepL⟩, rfl, L.hk⟩, ⟨?_, S.nd, fun a ha => ?_, fun n a so h1 h2 => ?_, S'.tabs⟩⟩
  · rw [List.length_take, S.len]
    omega
  · obtain ⟨n, vs, e⟩ := S.hid a ha
    exact ⟨n, vs, (L.hk a ha).trans e⟩
  · have hn : n < st.length := by
      rw [← S.len]
      exact (List.getElem?_eq_some_iff.mp h1).1
    have hc2 := stCl_at hc h2
    rw [List.getElem?_take_of_lt hn] at h2
    exact soCl_rep hm ho (by rw [S.len]; exact hc2) (S'.at_ n a so (L.pre n a h1) h2)
theorem FnD.scope {j : Nat} {x : Str} {n : Nat} {f : List D → Store → R D} (F : FnD P w mg base g j x n f) : FnD P w mg base g j x n (trim f) := F.imp fun E Q μ H st ds vs S r q => by
  unfold trim at q
  generalize f ds st = rr at q ⊢
  cases rr with
  | bad => exact q
  | ex c st' =>
    have q : Post g (WB E) [] μ H (if stCl st.length (st'.take st.length) = true ∧ st.length ≤ st'.length then .ex c (st'.take st.length) else .bad) (VP g Q) := q
    split at q
    · rename_i hc
      intro μ' H' L S'
      obtain ⟨_, _, h3, h4⟩ := scope_ok S L S' hc.2 hc.1
      exact q μ H' h3 h4
    · exact q.elim
  | ok d st' =>
    have q : Post g (WB E) [] μ H (if (letGo st.length st' d).cl st.length = true ∧ stCl st.length (st'.take st.length) = true ∧ st.length ≤ st'.length then .ok (letGo st.length st' d) (st'.take st.length) else .bad) (VP g Q) := q
    split at q
    · rename_i hc
      intro μ' H' L S' v rv
      obtain ⟨h1, h2, h3, h4⟩ := scope_ok S L S' hc.2.2 hc.2.1
      refine q μ H' h3 h4 v ?_
      have hcl := hc.1
      revert hcl
      cases d with
      | ref m =>
        unfold letGo
        by_cases hm : st.length ≤ m
        · simp only [hm, if_true]
          cases e : lstAt st' m with
          | none => intro hcl; exact cl_rep h1 h2 (by rw [S.len]; exact hcl) rv
          | some es =>
            intro hcl
            obtain ⟨a, ea, ha⟩ := rv
            obtain ⟨ws, e2, r2⟩ := S'.at_ m a _ ha (lstAt_eq e)
            have hcl : D.cls st.length es = true := hcl
            refine ⟨a, ws, ea, ⟨⟨fun z => ?_, fun z => ?_⟩, e2⟩, cls_rep h1 h2 (by rw [S.len]; exact hcl) r2⟩
            · obtain ⟨i, hi⟩ := List.mem_iff_getElem?.mp z
              have := nodup_inj S'.nd (L.pre i a hi) ha
              have h9 := (List.getElem?_eq_some_iff.mp hi).1
              rw [S.len] at h9
              omega
            · exact (S'.hid a (by rw [L.hh]; exact z)).1 (List.mem_of_getElem? ha)
        · simp only [hm, if_false]
          intro hcl
          exact cl_rep h1 h2 (by rw [S.len]; exact hcl) rv
      | _ => intro hcl; exact cl_rep h1 h2 (by rw [S.len]; exact hcl) rv
    · exact q.elim
end

/-! ### raise -/
/-- an own exception class over ValueError -/
structure ExD (g : GC) (mg : Str → Option Value) (x : Str) : Prop where
  gC : mg x = some (.ref (g.ga x))
  xC : PySem.W.excIn g.K (g.ga x) [.type "ValueError", .type "Exception", .type "BaseException", .type "object"] "ValueError.__new__" = true
  kC : PySem.W.keepIn g.K (.ref (g.ga x)) = true
  bC : PySem.W.subIn g.K (.ref (g.ga x)) (.type "BaseException") = some true
  tC : PySem.W.typeIn g.K (.ref (g.ga x)) = some (.type "type")
def dRaise (x : Str) : DS := fun env st => .ex x env st
section
variable {X : Cx} {g : GC} {W : WX} {k : Nat} {pos : Pos}
theorem s_raise {x m : Str} {jj : Nat} {p p2 pos2 : Pos} (O : Ok X g W k) (T : ExD g X.mg x) (hg : Gl X x := by rfl) (hdb : (x == ("__debug__" : Str)) = false := by decide) : PSD X g W (.Raise (some (.Call (.Name x p) [.Constant (.str m) jj p2] [] pos2)) none pos) (dRaise x) :=
  PS.imp (ps_raise O.calm O.tk (pmk_own PySem.F.excBase_ValueError (by rw [O.hK]; exact T.xC) T.gC (by rw [O.hK]; exact T.kC) (raises_own (by rw [O.hK]; exact T.bC) (by rw [O.hK]; exact T.tC)) hg hdb)) fun Dn σ H ⟨μ, env, st, S, E, q⟩ => q μ H σ Le.refl S E

/-! ### try: body, except x: suite -/
def noEx (r : SR) : SR := match r with
  | .ex _ _ _ => .bad
  | r => r
def dTry (tb : List (Str × Bool)) (fb fs : DS) : DS := fun env st => match fb env st with
  | .ex c env st => (match tb.lookup c with
    | some true => noEx (fs env st)
    | some false => .ex c env st
    | none => .bad)
  | r => r
/-- which classes an except clause names -/
def Catches (g : GC) (x : Str) (tb : List (Str × Bool)) : Prop := ∀ p ∈ tb, PySem.W.exmOne g.K (.ref (g.ga p.1)) (.ref (g.ga x)) = some p.2
theorem lookup_mem {α : Type} : ∀ {l : List (Str × α)} {c : Str} {b : α}, l.lookup c = some b → (c, b) ∈ l
  | [], _, _, h => by cases h
  | (x, y) :: l, c, b, h => by
    rw [List.lookup_cons] at h
    cases e : c == x with
    | true =>
      rw [e] at h
      cases h
      rw [beq_iff_eq.mp e]
      exact List.mem_cons_self
    | false =>
      rw [e] at h
      exact List.mem_cons_of_mem _ (lookup_mem h)
theorem s_try {x : Str} {np pos' : Pos} {body suite : List Stmt} {b₀ : Stmt} {tb : List (Str × Bool)} {fb fs : DS} (O : Ok X g W k) (T : ExD g X.mg x) (C : Catches g x tb) (hs : X.stack = X.env :: X.outer) (hf : X.env.frame = some X.env.locals)
    (hb : ∀ (W' : WX) (pn : List (Addr × Obj)) (xe : Value → Shared → Prop), Ok (X.tr pn xe) g W' k → PSsD (X.tr pn xe) g W' body fb)
    (hsu : ∀ (a : Addr) (oe : Obj) (pn : List (Addr × Obj)), PSsD (X.suite a ((a, oe) :: pn)) g W0 (b₀ :: suite) fs) (hg : Gl X x := by rfl) (hdb : (x == ("__debug__" : Str)) = false := by decide) :
    PSD X g W (.Try body [.ExceptHandler (some (.Name x np)) none (b₀ :: suite) pos'] [] [] pos) (dTry tb fb fs) :=
  PS.imp (ps_try_only (tb := fun W' => tDS g W' fb) hs hf ⟨hg, hdb, .inl T.gC⟩ O.tk (fun W' pn xe tk hp => hb W' pn xe ⟨O.hK, tk, hp, O.calm, O.nd, O.room⟩) (fun a oe cls d pn _ _ => hsu a oe pn)) fun Dn σ H ⟨μ, env, st, S, E, q⟩ => by
    refine ⟨μ, env, st, S, E, ?_⟩
    unfold dTry at q
    generalize fb env st = r at q ⊢
    cases r with
    | ex c env1 st1 =>
      intro μ1 H1 σ1 L1 S1 E1
      have q : PostS g W μ H (match tb.lookup c with
        | some true => noEx (fs env1 st1)
        | some false => .ex c env1 st1
        | none => .bad) Dn := q
      cases e : tb.lookup c with
      | none => rw [e] at q; exact q.elim
      | some b =>
        rw [e] at q
        refine ⟨b, by rw [O.hK]; exact C _ (lookup_mem e), fun hb a ha => ?_, fun hb => ?_⟩
        · subst hb
          have q2 : PostS g W μ1 H1 (noEx (fs env1 st1)) Dn := PostS.le L1 q
          refine ⟨μ1, env1, st1, S1, E1, ?_⟩
          generalize fs env1 st1 = r at q2 ⊢
          cases r with
          | ex c env2 st2 => exact q2.elim
          | nx env1 st1 => exact q2
          | rt d st1 => exact q2
          | bk env1 st1 => exact q2
          | ct env1 st1 => exact q2
          | bad => exact q2
        · subst hb
          exact q μ1 H1 σ1 L1 S1 E1
    | nx env1 st1 => exact q
    | rt d st1 => exact q
    | bk env1 st1 => exact q
    | ct env1 st1 => exact q
    | bad => exact q
end
end G

namespace G
open PySem L2
/-! ### told(lambda: e) -/
/-- def x(a): try: return a() / except e: return ret -/
structure ToldF (g : GC) (mg : Str → Option Value) (x e ret : Str) (gA : Addr) (pg : Arguments) (bg : List Stmt) (sg : Scope) (kV doc pm cdv ct oc : Value) (an od : Option Addr) (osl : Array (Option Value)) (Ng : List Str) (a : Str) : Prop where
  gm : mg x = some (.ref gA)
  kp : PySem.W.keepIn g.K (.ref gA) = true
  lk : g.K.lookup gA = some ⟨oc, od, .func (PySem.W.fnOf x x pg bg sg .none kV doc pm an cdv ct), osl⟩
  cd : PySem.W.codeIn g.K cdv x = true
  bi : L2.Binds g.K (PySem.W.fnOf x x pg bg sg .none kV doc pm an cdv ct) [a] []
  sc : FnScope Ng [a] sg
  n0 : Ng[0]? = some a
  vi : Vis sg a
  st : ∀ f : Addr, (L2.start Ng [V.ref f])[0]? = some (some (V.ref f))
  bd : ∃ (jj : Nat) (p1 p2 p3 p4 p5 p6 p7 p8 : Pos), bg = [.Try [.Return (some (.Call (.Name a p1) [] [] p2)) p3] [.ExceptHandler (some (.Name e p4)) none [.Return (some (.Constant (.str ret) jj p5)) p6] p7] [] [] p8]
  ge : sg.names.lookup e = some .globalImplicit
  de : (e == ("__debug__" : Str)) = false
  da : (a == ("__debug__" : Str)) = false
  dc : (a == ("__classdict__" : Str)) = false
  dx : (x == ("__debug__" : Str)) = false
def ToldD (g : GC) (mg : Str → Option Value) (x e ret : Str) : Prop := ∃ gA pg bg sg kV doc pm cdv ct oc an od osl Ng a, ToldF g mg x e ret gA pg bg sg kV doc pm cdv ct oc an od osl Ng a
/-- the frame's code object has its table -/
def Lm (X : Cx) (g : GC) : Prop := ∃ c P, LamX.TabB X.base X.mg c P ∧ X.env.code = .ref c ∧ (P, X.env.qual ++ "<lambda>") ∈ g.T ∧ ∀ p ∈ g.T, p.1 = P → p.2 = X.env.qual ++ "<lambda>"
theorem ext_le {g : GC} {μ : Mp} {H H1 : Hp} {st : Store} (S : RelS g μ H st) (e : LamX.ExtN H H1) (T1 : LamX.Tabs g.T H1) : Le μ H μ H1 ∧ RelS g μ H1 st := by
  have L : Le μ H μ H1 := by
    refine ⟨⟨fun _ _ h => h, fun a u n r t => ⟨n, ?_⟩, fun a vs n h => e a _ h (by intro _ z; cases z)⟩, rfl, fun a ha => ?_⟩
    · rcases r with r | ⟨o, r⟩
      · exact .inl (e a u r t)
      · exact .inr ⟨o, e a _ r (by intro _ z; cases z)⟩
    · obtain ⟨_, vs, h⟩ := S.hid a ha
      exact (e a _ h (by intro _ z; cases vs <;> cases z)).trans h.symm
  refine ⟨L, S.len, S.nd, fun a ha => ?_, fun n a so h1 h2 => ?_, T1⟩
  · obtain ⟨n, vs, h⟩ := S.hid a ha
    exact ⟨n, vs, (L.hk a ha).trans h⟩
  · have r := S.at_ n a so h1 h2
    obtain ⟨u, h, m⟩ := r.there
    exact r.move L.toLw ((e a u h (by intro _ z; rw [z] at m; exact m)).trans h.symm)
def dTold (tb : List Str) (ret : Str) (fe : DE) : DE := fun env st => match fe env st with
  | .ok d st => .ok d st
  | .ex c st => if tb.contains c = true then .ok (.str ret) st else .bad
  | .bad => .bad
section
variable {X : Cx} {g : GC} {W : WX} {k : Nat} {pos : Pos}
theorem pd_told {x e ret : Str} {params : Arguments} {body : Expr} {scope : Scope} {p lpos : Pos} {tb : List Str} {fe : DE} {j : Nat} (O : Ok X g W k) (M : Lm X g) (T : ToldD g X.mg x e ret) (ET : ExD g X.mg e) (C : Catches g e (tb.map fun c => (c, true))) (hj : j + 2 ≤ k)
    (hb : ∀ (A : Around) (outer : List PySem.Env) (s : Shared) (H : Hp) (E : XK) (f c' : Addr), Ok (LamX.lamCx X A outer s H E scope f c') g (WB E) j → PD (LamX.lamCx X A outer s H E scope f c') g (WB E) body fe)
    (hg : Gl X x := by rfl) (hl : LamX.lamSB X.env.scope scope = true := by rfl) (hdef : defaultsOf params X.env = ([], []) := by rfl)
    (hbind : ∀ (q : Str) (cl : List (Str × Addr)) (pm cv ctv : Value), bindArgs (PySem.W.kla_fn "<lambda>" q params body scope cl pm cv ctv) ⟨[], []⟩ = pure [] := by intros; rfl) : PD X g W (.Call (.Name x p) [.Lambda params body scope lpos] [] pos) (dTold tb ret fe) := by
  obtain ⟨gA, pg, bg, sg, kV, doc, pm, cdv, ct, oc, an, od, osl, Ng, a, T⟩ := T
  obtain ⟨c, P, TB, hcode, hmT, hu⟩ := M
  obtain ⟨jj, p1, p2, p3, p4, p5, p6, p7, p8, e1⟩ := T.bd
  subst e1
  have hK := O.hK
  refine PE.imp (LamX.pe_lamcall (T := g.T) (t := fun E => tDE g (WB E) fe) (k := j) hg T.gm (by rw [hK]; exact T.kp) (by rw [hK]; exact T.lk) (by rw [hK]; exact T.cd) (by rw [hK]; exact T.bi) T.sc T.n0 T.vi
    (LamX.told_gives T.ge ET.gC T.de T.st) TB hcode hmT hu (O.room.mono hj) (LamX.lamS_by hl) hdef hbind (fun A outer s H E f c' hr => hb A outer s H E f c' ⟨hK, takes_of rfl rfl rfl rfl, passes_of rfl, rfl, O.nd, hr⟩) T.dx T.da T.dc) fun σ H Q ⟨μ, env, st, S, E, q⟩ => ⟨S.tabs, fun H1 eN T1 => ?_⟩
  obtain ⟨L, S1⟩ := ext_le S eN T1
  refine ⟨μ, env, st, S1, E.le L, ?_⟩
  have q := Post.le L q
  unfold dTold at q
  generalize fe env st = r at q ⊢
  cases r with
  | ok d st1 => exact q
  | bad => exact q
  | ex cc st1 =>
    have q : Post g W σ μ H1 (if tb.contains cc = true then .ok (.str ret) st1 else .bad) (VP g Q) := q
    split at q
    · rename_i hc
      intro μ2 H2 Lb S2
      have hm : cc ∈ tb := by
        rw [List.contains_iff_mem] at hc
        exact hc
      refine ⟨true, by rw [hK]; exact C (cc, true) (List.mem_map.mpr ⟨cc, hm, rfl⟩), fun _ => ?_, fun z => nomatch z⟩
      exact q μ2 H2 Lb S2 _ rfl
    · exact q.elim
end
end G

namespace G
open PySem L2 PyProof.Rows
/-! ### lambdas that capture nothing, as values -/
theorem lamO_at {P : Program} {w : World} {H : Hp} {h : Heap} {f c : Addr} {l : LamI} {pm ctv : Value} (e : h.get? f = some (PySem.W.kla_obj "<lambda>" l.qual l.params l.body l.scope [] pm c ctv)) : ObjOk P w H h f (LamO f c l pm ctv) := ⟨e, ⟨_, e⟩, fun h1 h2 q st => st _ q⟩
theorem lamO_ne {f c : Addr} {l : LamI} {pm ctv : Value} (ps : Array Value) : LamO f c l pm ctv ≠ .tbl ps := fun z => by
  unfold LamO at z
  cases z
section
variable {X : Cx} {pins : List (Addr × Obj)} {σ : L2.St} {H : Hp} {s : Shared} {g : GC} {W : WX} {k : Nat} {pos : Pos}
theorem tabs_new {T : List (Addr × Str)} {H : Hp} {p : Addr} {o : HO} (t : LamX.Tabs T H) (hp : H p = none) : LamX.Tabs T (upd H p o) := t.ext (ext_new hp)
/-- the lambda is made, and known from now on -/
theorem lam_new {c P : Addr} {l : LamI} {E : Value → Shared → Prop} {Q : Value → Shared → Prop} (I : Inv X pins σ H s) (TB : LamX.TabB X.base X.mg c P) (hcode : X.env.code = .ref c)
    (hm : (P, X.env.qual ++ "<lambda>") ∈ g.T) (hu : ∀ p ∈ g.T, p.1 = P → p.2 = X.env.qual ++ "<lambda>") (hT : LamX.Tabs g.T H) (hq : l.qual = X.env.qual ++ "<lambda>") (hdef : defaultsOf l.params X.env = ([], [])) (hcl : closureFor l.scope X.env = pure [])
    (h : ∀ (f c' : Addr) (pm ctv : Value) (H1 : Hp) (s' : Shared), LamX.ExtN H H1 → LamX.Tabs g.T H1 → H1 f = none → H1 c' = some (LamX.CodeO c' l.qual) → (∀ b, H1 b = none → H b = none) → Inv X pins σ (upd H1 f (LamO f c' l pm ctv)) s' → Q (.ref f) s') :
    wpAny (model X.prog X.w) X.A (eval (.Lambda l.params l.body l.scope pos) X.env) Q E s := by
  obtain ⟨ps, hP, ht, ha⟩ := hT _ hm
  have bP : s.heap.BuiltinsAt X.mg P := TB.bm.keeps I.bk
  have hP' : s.heap.get? P = some { cls := .none, data := .fields ps } := I.hok P _ hP
  have gl : s.heap.Ns mainGlobals X.mg := I.mod.glob.keeps I.bk
  refine PySem.W.kla_eval hdef ?_
  rw [← hq] at hm hu ha ⊢
  cases hc : codeAmong pos ps.toList with
  | some cv =>
    obtain ⟨c', ec, hco⟩ := ha pos cv hc
    subst ec
    refine PySem.W.kla_makeFunctionHit (mg := X.mg) (c := c) (P := P) (ps := ps) hcl I.ok.glob gl hcode (TB.code.keeps I.bk) hP' ht hc bP fun ctv h1 tk kp hsz => ?_
    have I0 : Inv X pins σ H { s with heap := h1, toks := tk } := I.kept kp
    have I1 := I0.laid (a := h1.objs.size) (o := LamO h1.objs.size c' l ((X.mg "__name__").getD .none) ctv) (t' := tk) (h' := h1.push (PySem.W.kla_obj "<lambda>" l.qual l.params l.body l.scope [] ((X.mg "__name__").getD .none) c' ctv)) (fun b o e => Heap.get?_push_of_some _ e) (Nat.le_refl _) (lamO_at (Heap.get?_push_size _ rfl))
    exact h h1.objs.size c' ((X.mg "__name__").getD .none) ctv H _ (LamX.ExtN.refl H) hT (I0.hok.fresh (Nat.le_refl _)) hco (fun _ n => n) I1
  | none =>
    refine PySem.W.kla_makeFunction (mg := X.mg) (c := c) (P := P) (ps := ps) hcl I.ok.glob gl hcode (TB.code.keeps I.bk) hP' ht hc TB.gP bP fun c' ctv h1 tk hx hge hlt hrec htb => ?_
    obtain ⟨c2, oc, vs, t, e2, hoc, hd, hv⟩ := hrec
    cases e2
    have nC : H c' = none := I.hok.fresh hge
    have nPc : P ≠ c' := ne_of_none hP nC
    have I0 : Inv X pins σ (upd (upd H P (.tbl (ps ++ #[rawInt pos.line, rawInt pos.col, .ref c']))) c' (LamX.CodeO c' l.qual)) { s with heap := h1, toks := tk } :=
      LamX.inv_table I hP (fun b o hb e => hx b o hb e) htb hge ⟨oc, vs, t, hoc, hd, hv⟩
    have hE : LamX.ExtN H (upd (upd H P (.tbl (ps ++ #[rawInt pos.line, rawInt pos.col, .ref c']))) c' (LamX.CodeO c' l.qual)) := fun b o e n => by
      have b1 : b ≠ c' := ne_of_none e nC
      have b2 : b ≠ P := fun z => n ps (Option.some.inj (e.symm.trans (by rw [z]; exact hP)))
      rw [L2.upd_ne b1, L2.upd_ne b2]
      exact e
    have eL : (ps ++ #[rawInt pos.line, rawInt pos.col, Value.ref c']).toList = ps.toList ++ [rawInt pos.line, rawInt pos.col, .ref c'] := by simp
    have T1 : LamX.Tabs g.T (upd (upd H P (.tbl (ps ++ #[rawInt pos.line, rawInt pos.col, .ref c']))) c' (LamX.CodeO c' l.qual)) := fun p hp => by
      by_cases hb : p.1 = P
      · rw [hu p hp hb, hb]
        refine ⟨_, (L2.upd_ne nPc).trans upd_same, ?_, fun p' cv hcv => ?_⟩
        · rw [eL]
          exact PySem.TriplesOk_snoc _ _ _ _ ht
        · rw [eL] at hcv
          rcases LamX.among_app _ ht hcv with z | z
          · obtain ⟨c0, z1, z2⟩ := ha p' cv z
            exact ⟨c0, z1, hE _ _ z2 LamX.codeO_ne⟩
          · exact ⟨c', z, upd_same⟩
      · obtain ⟨qs, a1, a2, a3⟩ := hT p hp
        have n1 : p.1 ≠ c' := ne_of_none a1 nC
        refine ⟨qs, by rw [L2.upd_ne n1, L2.upd_ne hb]; exact a1, a2, fun p' cv hcv => ?_⟩
        obtain ⟨c0, z1, z2⟩ := a3 p' cv hcv
        exact ⟨c0, z1, hE _ _ z2 LamX.codeO_ne⟩
    have I1 := I0.laid (a := h1.objs.size) (o := LamO h1.objs.size c' l ((X.mg "__name__").getD .none) ctv) (t' := tk) (h' := h1.push (PySem.W.kla_obj "<lambda>" l.qual l.params l.body l.scope [] ((X.mg "__name__").getD .none) c' ctv)) (fun b o e => Heap.get?_push_of_some _ e) (Nat.le_refl _) (lamO_at (Heap.get?_push_size _ rfl))
    refine h h1.objs.size c' ((X.mg "__name__").getD .none) ctv _ _ hE T1 (I0.hok.fresh (Nat.le_refl _)) upd_same (fun b n => ?_) I1
    cases q : H b with
    | none => rfl
    | some u =>
      by_cases b1 : b = c'
      · rw [b1, upd_same] at n; cases n
      · rw [L2.upd_ne b1] at n
        by_cases b2 : b = P
        · rw [b2, upd_same] at n; cases n
        · rw [L2.upd_ne b2, q] at n; cases n
def dLam (n : Nat) : DE := fun _ st => .ok (.lam n) st
theorem pd_lam (n : Nat) {l : LamI} (M : Lm X g) (hn : g.lam n = some l) (hq : l.qual = X.env.qual ++ "<lambda>" := by rfl) (hdef : defaultsOf l.params X.env = ([], []) := by rfl) (hcl : closureFor l.scope X.env = pure [] := by rfl) : PD X g W (.Lambda l.params l.body l.scope pos) (dLam n) := by
  obtain ⟨c, P, TB, hcode, hmT, hu⟩ := M
  refine ⟨fun pins s σ H Q I ⟨μ, env, st, S, E, q⟩ => ?_⟩
  refine lam_new I TB hcode hmT hu S.tabs hq hdef hcl fun f c' pm ctv H1 s' eN T1 nf hc nb I1 => ?_
  obtain ⟨L1, S1⟩ := ext_le S eN T1
  have L2' := le_new (o := LamO f c' l pm ctv) S1 nf
  refine ⟨.ref f, _, I1, rfl, ?_⟩
  refine q μ _ (L1.trans L2') (S1.frz nf) _ ⟨f, c', l, pm, ctv, rfl, hn, ⟨S1.out nf, .inl upd_same⟩, ?_, Rd.upd_ne (.inl hc) (ne_of_none hc nf)⟩
  -- the code object is nobody's
  have m1 : ∀ a ∈ μ.m, ∃ u, H1 a = some u ∧ Mut (some u) ∧ ∀ φ, u ≠ .ext φ := fun a ha => by
    obtain ⟨n, hn⟩ := List.mem_iff_getElem?.mp ha
    have hl : n < st.length := by
      rw [← S1.len]
      exact (List.getElem?_eq_some_iff.mp hn).1
    have r := S1.at_ n a _ hn (List.getElem?_eq_getElem hl)
    cases h10 : st[n] with
    | lst ds => rw [h10] at r; obtain ⟨vs, e, _⟩ := r; exact ⟨_, e, trivial, fun φ z => by cases z⟩
    | dic ks ds =>
      rw [h10] at r
      obtain ⟨vs, o, e, d, _⟩ := r
      rcases d with ⟨_, _, d⟩ | ⟨_, _, _, d⟩ <;> exact ⟨o, e, by rw [d]; trivial, fun φ z => by rw [d] at z; cases z⟩
    | ins C fs => rw [h10] at r; obtain ⟨dx, gs, e, _⟩ := r; exact ⟨_, e, trivial, fun φ z => by cases z⟩
  refine ⟨fun z => ?_, fun z => ?_⟩
  · obtain ⟨u, e, _, ne⟩ := m1 _ z
    rw [hc] at e
    cases e
    exact ne _ rfl
  · obtain ⟨_, vs, e⟩ := S1.hid _ z
    rw [hc] at e
    unfold LamX.CodeO at e
    cases vs <;> cases e

/-! ### such a lambda is called by a local name -/
abbrev lamEnv0 (l : LamI) (L f c : Addr) : PySem.Env := PySem.W.envX l.qual l.scope L f (.ref c) []
/-- the context of its body -/
def lamCx0 (P : Program) (w : World) (K : PySem.W.Frag) (mg : Str → Option Value) (base : Heap) (l : LamI) (A : Around) (outer : List PySem.Env) (s : Shared) (H : Hp) (E : XK) (f c : Addr) : Cx where
  prog := P
  w := w
  K := K
  mg := mg
  base := base
  A := A.deeper (lamEnv0 l s.heap.objs.size f c)
  N := []
  s_0 := s
  H_0 := H
  env := lamEnv0 l s.heap.objs.size f c
  outer := outer
  stack := lamEnv0 l s.heap.objs.size f c :: outer
  ex := []
  fn := fun _ => false
  calm := true
  pn := []
  xe := fun e s' => wpAny (model P w) (A.deeper (lamEnv0 l s.heap.objs.size f c)) (leaving (lamEnv0 l s.heap.objs.size f c) e) (fun _ s'' => L2.CX P w outer H s E e s'') (fun e' s'' => L2.CX P w outer H s E e' s'') s'
structure LamOk (l : LamI) : Prop where
  kind : l.scope.kind = .function
  co : l.scope.isCoroutine = false
  gen : l.scope.isGenerator = false
  own : ∀ y ∈ l.scope.names, y.2 ≠ .local ∧ y.2 ≠ .cell ∧ y.2 ≠ .free
  bind : ∀ (q : Str) (cl : List (Str × Addr)) (pm cv ctv : Value), bindArgs (PySem.W.kla_fn "<lambda>" q l.params l.body l.scope cl pm cv ctv) ⟨[], []⟩ = pure []
/-- what the lambdas of the text do -/
def LamsOk (P : Program) (w : World) (mg : Str → Option Value) (base : Heap) (g : GC) (j : Nat) (tab : Nat → Store → R D) : Prop :=
  ∀ n l, g.lam n = some l → LamOk l ∧ ∀ (A : Around) (outer : List PySem.Env) (s : Shared) (H : Hp) (E : XK) (f c : Addr), Ok (lamCx0 P w g.K mg base l A outer s H E f c) g (WB E) j → PD (lamCx0 P w g.K mg base l A outer s H E f c) g (WB E) l.body (fun _ st => tab n st)
theorem lam_start0 {l : LamI} {A : Around} {outer : List PySem.Env} {P : Program} {w : World} {K : PySem.W.Frag} {mg : Str → Option Value} {base : Heap} {E : XK} {f c : Addr} {s1 : Shared} {H : Hp} {h₁ : Heap} {tk : Nat} (L : LamOk l) (e0 : Env0 P w K mg base A outer s1 H) (hd : A.handled = none)
    (hns : h₁.Ns s1.heap.objs.size fun y => ([] : List (Str × Value)).reverse.lookup y) (kp : ∀ b o, s1.heap.get? b = some o → h₁.get? b = some o) :
    Inv (lamCx0 P w K mg base l A outer s1 H E f c) [] [] H { s1 with heap := h₁, toks := tk } := by
  have noA : ∀ b : Addr, b ∉ (lamCx0 P w K mg base l A outer s1 H E f c).ex := fun b z => absurd (show b ∈ ([] : List Addr) from z) (by simp)
  have noC : ∀ {x : Str} {a : Addr}, (lamCx0 P w K mg base l A outer s1 H E f c).env.cells.lookup x = some a → False := fun {x a} z => by
    have z : ([] : List (Str × Addr)).lookup x = some a := z
    cases z
  have noK : ∀ {x : Str} {q : NameKind}, l.scope.names.lookup x = some q → q ≠ .local ∧ q ≠ .cell ∧ q ≠ .free := fun h => L.own _ (PySem.mem_of_lookup h)
  refine
    { ok := { mod := e0.mod, kind := L.kind, glob := rfl, blt := rfl, above := Nat.le_refl _, inj := fun x y a z => (noC z).elim, has := fun x hx => ?_, cab := fun x a _ z => (noC z).elim, hd := fun _ => hd, frames := Around.frames_deeper e0.frames, stk := .inr ⟨rfl, rfl⟩, exf := fun b z => absurd z (noA b),
              bs := e0.bs, bsz := e0.bsz, noex := fun b _ _ => noA b, exfs := fun b z => absurd z (noA b), funs := e0.funs, frf := e0.frf }
      os := rfl, bare := e0.bare, base := Un.kept kp, loc := ⟨_, hns, fun i y v h1 _ _ => ?_⟩, cell := fun x a z => (noC z).elim, free := e0.hok.fresh (Nat.le_refl _), freeC := fun x a z => (noC z).elim, pin := fun p hp => absurd (show p ∈ ([] : List (Addr × Obj)) ++ [] from hp) (by simp), hok := e0.hok.kept kp, len := rfl }
  · have hx : l.scope.names.lookup x = some .cell ∨ l.scope.names.lookup x = some .free := hx
    rcases hx with z | z
    · exact absurd rfl (noK z).2.1
    · exact absurd rfl (noK z).2.2
  · have h1 : ([] : List Str)[i]? = some y := h1
    simp at h1
def dCallLam (tab : Nat → Store → R D) (i : Nat) : DE := fun env st => match env[i]? with
  | some (some (.lam n)) => tab n st
  | _ => .bad
theorem pd_callLam (i : Nat) {a : Str} {p1 p2 : Pos} {tab : Nat → Store → R D} {j : Nat} (O : Ok X g W k) (F : LamsOk X.prog X.w X.mg X.base g j tab) (hj : j + 1 ≤ k) (hN : X.N[i]? = some a := by rfl) (hv : Vis X.env.scope a := by first | exact Or.inl rfl | exact Or.inr (Or.inl rfl) | exact Or.inr (Or.inr rfl))
    (hd : (a == ("__debug__" : Str)) = false := by decide) (hcd : (a == ("__classdict__" : Str)) = false := by decide) : PD X g W (.Call (.Name a p1) [] [] p2) (dCallLam tab i) := by
  refine ⟨fun pins s σ H Q I ⟨μ, env, st, S, E, q⟩ => ?_⟩
  unfold dCallLam at q
  split at q
  · rename_i n he
    obtain ⟨v, hs, f, c, l, pm, ctv, ev, hl, ⟨_, hf⟩, _, hc⟩ := E.at_ i _ he
    subst ev
    refine wpAny_Call_Name_kw (thn ((pe_var (pos := p1) (i := i) hN hv hd hcd).run pins s σ H (fun v H1 => v = .ref f ∧ H1 = H) I ⟨.ref f, hs, rfl, rfl⟩) fun u s1 h1 => ?_)
    obtain ⟨v, H1, I1, r1, ev, eH⟩ := h1
    subst ev eH
    obtain rfl : u = Value.ref f := r1
    have of1 : s1.heap.get? f = some (PySem.W.kla_obj "<lambda>" l.qual l.params l.body l.scope [] pm c ctv) := (hf.ok I1.hok).1
    obtain ⟨⟨oc, vs, t, hoc, hdc, hvc⟩, _, _⟩ := hc.ok I1.hok
    obtain ⟨lo, body⟩ := F n l hl
    refine PySem.W.callWith_F0 ⟨_, _, _, _, of1⟩ ?_
    have hr := O.room.mono hj
    have rc : codeAny (model X.prog X.w) X.A (.call (.ref f) ⟨[], []⟩) (CR (L2.CX X.prog X.w) X.stack X.prog X.w H1 s1 Q (WE W σ)) s1 := by
      refine PySem.W.kla_callFunE hr.depth of1 rfl lo.co lo.gen rfl ⟨c, oc, vs, t, rfl, hoc, hdc, hvc⟩ ?_
      rw [lo.bind]
      refine wpAny_pure (wpAny_newFunctionEnv (fun y hy => (lo.own y hy).2.1) (fun y hy => absurd hy (by simp)) (fun h₁ hns hsb => ⟨I1.nolimit.fresh _ hsb, ?_⟩) lo.kind)
      show codeAny _ _ (.expr l.body (lamEnv0 l s1.heap.objs.size f c)) _ _
      have kp : ∀ b o, s1.heap.get? b = some o → h₁.get? b = some o := fun b o e => hsb.extBut b o (Nat.ne_of_lt (Heap.lt_size e)) (Heap.get?_push_of_some _ e)
      have J : Inv (lamCx0 X.prog X.w X.K X.mg X.base l X.A X.stack s1 H1 (WE W σ) f c) [] [] H1 { s1 with heap := h₁, toks := s1.toks + ([] : List (Str × Value)).length } := lam_start0 lo I1.env0 hr.hd hns kp
      have hK := O.hK
      have O2 : Ok (lamCx0 X.prog X.w X.K X.mg X.base l X.A X.stack s1 H1 (WE W σ) f c) g (WB (WE W σ)) j := ⟨hK, takes_of rfl rfl rfl rfl, passes_of rfl, rfl, List.nodup_nil, hr.deeper _⟩
      have pd : PD (lamCx0 X.prog X.w X.K X.mg X.base l X.A X.stack s1 H1 (WE W σ) f c) g (WB (WE W σ)) l.body (fun _ st => tab n st) := by
        revert O2
        rw [hK]
        exact fun O2 => body X.A X.stack s1 H1 (WE W σ) f c O2
      refine PySem.W.kla_codeExpr (wpAny_mono (pd.run [] _ [] H1 Q J ⟨μ, [], st, S, ⟨rfl, fun i d h => by simp at h⟩, ?_⟩) (fun v s' hq => ?_) fun e s' hq => hq)
      · show Post g (WB (WE W σ)) [] μ H1 (tab n st) (VP g Q)
        generalize tab n st = rr at q ⊢
        cases rr with
        | ok d st' => exact q
        | ex c st' => exact q
        | bad => exact q
      · obtain ⟨w', H', J', rv, qq⟩ := hq
        exact ⟨w', H', J'.os, J'.bare, J'.base, J'.hok, rv, qq⟩
    refine wpAny_call (codeAny_mono rc fun r s' hq => ?_)
    cases r with
    | error e => exact passAt O.tk σ pins H1 s1 e s' I1 hq
    | ok fl =>
      cases fl with
      | ret u => exact I1.after hq
      | next => exact False.elim hq
      | brk => exact False.elim hq
      | cont => exact False.elim hq
  · exact q.elim
end
end G

namespace G
open PySem L2
/-! ### the defs of a text -/
/-- x is the def st of the parameters ps -/
def DefD (g : GC) (mg : Str → Option Value) (x : Str) (st : Stmt) (ps : List Str) : Prop := ∃ (fa : Addr) (fd : FuncData), Fun g.K x x st fa fd ∧ mg x = some (.ref fa) ∧ Binds g.K fd ps []
/-- .. and its code object and table are told -/
def DefL (g : GC) (mg : Str → Option Value) (x : Str) (st : Stmt) (ps : List Str) : Prop := ∃ (fa : Addr) (oc kV doc pm ct : Value) (od an : Option Addr) (osl : Array (Option Value)),
  g.K.lookup fa = some ⟨oc, od, .func (PySem.W.fnOf x x (defArgs st) (defBody st) (defScope st) .none kV doc pm an (.ref (g.cp x).1) ct), osl⟩ ∧ PySem.W.codeIn g.K (.ref (g.cp x).1) x = true ∧ PySem.W.keepIn g.K (.ref fa) = true ∧ mg x = some (.ref fa) ∧
  Binds g.K (PySem.W.fnOf x x (defArgs st) (defBody st) (defScope st) .none kV doc pm an (.ref (g.cp x).1) ct) ps []
section
variable {P : Program} {w : World} {mg : Str → Option Value} {base : Heap} {g : GC}
theorem fn_D {x : Str} {st : Stmt} {N ps : List Str} {j n : Nat} {fb : DS} (F : DefD g mg x st ps) (S : FnScope N ps (defScope st)) (hn : ps.length = n)
    (body : ∀ (fa : Addr) (cdv : Value) (A : Around) (outer : List PySem.Env) (s : Shared) (H : Hp) (E : XK), Ok (bodyCx P w g.K mg base N x (defScope st) fa cdv A outer s H E) g (WB E) j → PSsD (bodyCx P w g.K mg base N x (defScope st) fa cdv A outer s H E) g (WB E) (defBody st) fb) :
    FnD P w mg base g (j + 1) x n (runB N.length fb) := by
  obtain ⟨fa, fd, F, hm, hb⟩ := F
  exact fn_d F hm S hb hn (body fa)
theorem fn_L {x : Str} {st : Stmt} {N ps : List Str} {j n : Nat} {fb : DS} (F : DefL g mg x st ps) (B : LamX.TabB base mg (g.cp x).1 (g.cp x).2) (mT : ((g.cp x).2, (x ++ ".<locals>.") ++ "<lambda>") ∈ g.T) (hu : ∀ p ∈ g.T, p.1 = (g.cp x).2 → p.2 = (x ++ ".<locals>.") ++ "<lambda>") (S : FnScope N ps (defScope st)) (hn : ps.length = n)
    (body : ∀ (fa : Addr) (cdv : Value) (A : Around) (outer : List PySem.Env) (s : Shared) (H : Hp) (E : XK), Ok (bodyCx P w g.K mg base N x (defScope st) fa cdv A outer s H E) g (WB E) j → Lm (bodyCx P w g.K mg base N x (defScope st) fa cdv A outer s H E) g → PSsD (bodyCx P w g.K mg base N x (defScope st) fa cdv A outer s H E) g (WB E) (defBody st) fb) :
    FnD P w mg base g (j + 1) x n (runB N.length fb) := by
  obtain ⟨fa, oc, kV, doc, pm, ct, od, an, osl, lk, hcd, kp, hm, hb⟩ := F
  refine ⟨fa, _, ps, hm, kp, hb, fn_of lk hcd S (fun vs H Q E h => h.1.trans hn.symm) fun A outer s H vs Q E hr h => ⟨_, body fa (.ref (g.cp x).1) A outer s H E ⟨rfl, takes_of rfl rfl rfl rfl, passes_of rfl, rfl, S.nd, hr⟩ ⟨_, _, B, rfl, mT, hu⟩, ?_⟩⟩
  obtain ⟨hl, μ, st0, ds, S0, r, q⟩ := h
  refine ⟨μ, _, st0, S0, reps_env r N.length, ?_⟩
  unfold runB at q
  generalize fb (ds.map some ++ List.replicate (N.length - ds.length) none) st0 = rr at q ⊢
  cases rr with
  | nx env st1 => exact fun μ' H' σ' L S' _ => q μ' H' L S' _ rfl
  | rt d st1 => exact fun μ' H' v L S' rv => q μ' H' L S' v rv
  | bk env st1 => exact q.elim
  | ct env st1 => exact q.elim
  | ex c env st1 => exact fun μ' H' σ' L S' _ => q μ' H' L S'
  | bad => exact q.elim
/-- nothing is promised -/
theorem fn_bad {x : Str} {st : Stmt} {ps : List Str} {j n : Nat} (F : DefD g mg x st ps) (hn : ps.length = n) : FnD P w mg base g j x n (fun _ _ => .bad) := by
  obtain ⟨fa, fd, F, hm, hb⟩ := F
  exact ⟨fa, fd, ps, hm, F.kp, hb, fun vs H Q E h => h.1.trans hn.symm, fun A outer s H args us vs Q E _ _ _ _ h => by
    obtain ⟨_, _, _, _, _, _, q⟩ := h
    exact q.elim⟩
/-- a def that calls itself, n deep -/
theorem fn_rec {x : Str} {st : Stmt} {ps : List Str} {j n : Nat} {N : List Str} {fb : (List D → Store → R D) → DS} (F : DefD g mg x st ps) (hn : ps.length = n) (f : Nat → List D → Store → R D) (f0 : f 0 = fun _ _ => .bad) (fs : ∀ m, f (m + 1) = runB N.length (fb (f m)))
    (step : ∀ m, FnD P w mg base g (j + m) x n (f m) → FnD P w mg base g (j + m + 1) x n (runB N.length (fb (f m)))) : ∀ m, FnD P w mg base g (j + m) x n (f m)
  | 0 => by rw [f0]; exact fn_bad F hn
  | m + 1 => by rw [fs]; exact step m (fn_rec F hn f f0 fs step m)
end
section
variable {X : Cx} {g : GC} {W : WX} {k : Nat} {pos : Pos}
theorem pd_call0 {x : Str} {p : Pos} {j : Nat} {f : List D → Store → R D} (O : Ok X g W k) (F : FnD X.prog X.w X.mg X.base g j x 0 f) (hj : j ≤ k) (hg : Gl X x := by rfl) (hdb : (x == ("__debug__" : Str)) = false := by decide) : PD X g W (.Call (.Name x p) [] [] pos) (dCall f dNil) := by
  obtain ⟨fA, fd, ps, h1, h2, h3, h4⟩ := F
  rw [← O.hK] at h2 h3 h4
  refine ⟨fun pins s σ H Q I ⟨μ, env, st, S, E, h⟩ => ?_⟩
  refine wpAny_Call_Name_kw (ld_glob I hg h1 ?_ hdb)
  refine PySem.W.callWith_K0 I.kIn h2 (run_fnS (us := []) (vs := []) (E := fun σ => WE W σ) h4 (O.room.mono hj) h3 (passAt O.tk σ) I .nil ⟨rfl, μ, st, [], S, rfl, ?_⟩)
  have h : Post g W σ μ H (f [] st) (VP g Q) := h
  generalize f [] st = r at h ⊢
  cases r with
  | ok d st2 => exact h
  | ex c st2 => exact h
  | bad => exact h
end
/-! ### the lambdas of the text -/
def listElt (s : Stmt) (i : Nat) : Expr := match s with
  | .Assign _ (.List es _) _ => es.getD i (.Constant .none 0 ⟨0, 0, 0, 0⟩)
  | _ => .Constant .none 0 ⟨0, 0, 0, 0⟩
def lamI (q : Str) (e : Expr) : LamI := match e with
  | .Lambda p b s _ => ⟨q, p, b, s⟩
  | e => ⟨q, { posonlyargs := [], args := [], vararg := none, kwonlyargs := [], kw_defaults := [], kwarg := none, defaults := [] }, e, { kind := .function, names := [], isGenerator := false, isCoroutine := false }⟩
def lamOkB (l : LamI) : Bool := (match l.scope.kind with | .function => true | _ => false) && !l.scope.isCoroutine && !l.scope.isGenerator && l.scope.names.all fun y => match y.2 with
  | .local => false
  | .cell => false
  | .free => false
  | _ => true
theorem lamOk_by {l : LamI} (h : lamOkB l = true) (hb : ∀ (q : Str) (cl : List (Str × Addr)) (pm cv ctv : Value), bindArgs (PySem.W.kla_fn "<lambda>" q l.params l.body l.scope cl pm cv ctv) ⟨[], []⟩ = pure []) : LamOk l := by
  unfold lamOkB at h
  simp only [Bool.and_eq_true, Bool.not_eq_true', List.all_eq_true] at h
  obtain ⟨⟨⟨h1, h2⟩, h3⟩, h4⟩ := h
  refine ⟨?_, h2, h3, fun y hy => ?_, hb⟩
  · split at h1
    · assumption
    · cases h1
  · have q := h4 y hy
    refine ⟨fun z => ?_, fun z => ?_, fun z => ?_⟩ <;> (rw [z] at q; cases q)
end G

namespace G
open PySem L2
/-! ### the end -/
section
variable {P : Program} {w : World} {mg : Str → Option Value} {base h : Heap} {g : GC} {K : PySem.W.Frag}
theorem ok_L {x : Str} {st : Stmt} {N ps : List Str} {j n : Nat} {fb : DS} {fa : Addr} {oc kV doc pm ct : Value} {od an : Option Addr} {osl : Array (Option Value)}
    (lk : g.K.lookup fa = some ⟨oc, od, .func (PySem.W.fnOf x x (defArgs st) (defBody st) (defScope st) .none kV doc pm an (.ref (g.cp x).1) ct), osl⟩) (hcd : PySem.W.codeIn g.K (.ref (g.cp x).1) x = true)
    (B : LamX.TabB base mg (g.cp x).1 (g.cp x).2) (mT : ((g.cp x).2, (x ++ ".<locals>.") ++ "<lambda>") ∈ g.T) (hu : ∀ p ∈ g.T, p.1 = (g.cp x).2 → p.2 = (x ++ ".<locals>.") ++ "<lambda>") (S : FnScope N ps (defScope st)) (hn : ps.length = n)
    (body : ∀ (A : Around) (outer : List PySem.Env) (s : Shared) (H : Hp) (E : XK), Ok (bodyCx P w g.K mg base N x (defScope st) fa (.ref (g.cp x).1) A outer s H E) g (WB E) j → Lm (bodyCx P w g.K mg base N x (defScope st) fa (.ref (g.cp x).1) A outer s H E) g → PSsD (bodyCx P w g.K mg base N x (defScope st) fa (.ref (g.cp x).1) A outer s H E) g (WB E) (defBody st) fb) :
    FnOk P w g.K mg base (L2.CX P w) (j + 1) fa (PySem.W.fnOf x x (defArgs st) (defBody st) (defScope st) .none kV doc pm an (.ref (g.cp x).1) ct) ps (spD g n (runB N.length fb)) := by
  refine fn_of lk hcd S (fun vs H Q E h => h.1.trans hn.symm) fun A outer s H vs Q E hr h => ⟨_, body A outer s H E ⟨rfl, takes_of rfl rfl rfl rfl, passes_of rfl, rfl, S.nd, hr⟩ ⟨_, _, B, rfl, mT, hu⟩, ?_⟩
  obtain ⟨hl, μ, st0, ds, S0, r, q⟩ := h
  refine ⟨μ, _, st0, S0, reps_env r N.length, ?_⟩
  unfold runB at q
  generalize fb (ds.map some ++ List.replicate (N.length - ds.length) none) st0 = rr at q ⊢
  cases rr with
  | nx env st1 => exact fun μ' H' σ' L S' _ => q μ' H' L S' _ rfl
  | rt d st1 => exact fun μ' H' v L S' rv => q μ' H' L S' v rv
  | bk env st1 => exact q.elim
  | ct env st1 => exact q.elim
  | ex c env st1 => exact fun μ' H' σ' L S' _ => q μ' H' L S'
  | bad => exact q.elim
theorem ok_D {x : Str} {st : Stmt} {N ps : List Str} {j n : Nat} {fb : DS} {fa : Addr} {oc kV doc pm cdv ct : Value} {od an : Option Addr} {osl : Array (Option Value)}
    (lk : g.K.lookup fa = some ⟨oc, od, .func (PySem.W.fnOf x x (defArgs st) (defBody st) (defScope st) .none kV doc pm an cdv ct), osl⟩) (hcd : PySem.W.codeIn g.K cdv x = true)
    (S : FnScope N ps (defScope st)) (hn : ps.length = n)
    (body : ∀ (A : Around) (outer : List PySem.Env) (s : Shared) (H : Hp) (E : XK), Ok (bodyCx P w g.K mg base N x (defScope st) fa cdv A outer s H E) g (WB E) j → PSsD (bodyCx P w g.K mg base N x (defScope st) fa cdv A outer s H E) g (WB E) (defBody st) fb) :
    FnOk P w g.K mg base (L2.CX P w) (j + 1) fa (PySem.W.fnOf x x (defArgs st) (defBody st) (defScope st) .none kV doc pm an cdv ct) ps (spD g n (runB N.length fb)) := by
  refine fn_of lk hcd S (fun vs H Q E h => h.1.trans hn.symm) fun A outer s H vs Q E hr h => ⟨_, body A outer s H E ⟨rfl, takes_of rfl rfl rfl rfl, passes_of rfl, rfl, S.nd, hr⟩, ?_⟩
  obtain ⟨hl, μ, st0, ds, S0, r, q⟩ := h
  refine ⟨μ, _, st0, S0, reps_env r N.length, ?_⟩
  unfold runB at q
  generalize fb (ds.map some ++ List.replicate (N.length - ds.length) none) st0 = rr at q ⊢
  cases rr with
  | nx env st1 => exact fun μ' H' σ' L S' _ => q μ' H' L S' _ rfl
  | rt d st1 => exact fun μ' H' v L S' rv => q μ' H' L S' v rv
  | bk env st1 => exact q.elim
  | ct env st1 => exact q.elim
  | ex c env st1 => exact fun μ' H' σ' L S' _ => q μ' H' L S'
  | bad => exact q.elim
theorem defD_mk {x : Str} {st : Stmt} {ps : List Str} {fa : Addr} {oc kV doc pm cdv ct : Value} {od an : Option Addr} {osl : Array (Option Value)} (X : K.In h) (G₀ : h.Ns mainGlobals mg) (hK : g.K = K)
    (a : PySem.W.nsIn K mainGlobals x = some (some (.ref fa))) (l : K.lookup fa = some ⟨oc, od, .func (PySem.W.fnOf x x (defArgs st) (defBody st) (defScope st) .none kV doc pm an cdv ct), osl⟩)
    (c : PySem.W.codeIn K cdv x = true) (k : PySem.W.keepIn K (.ref fa) = true) (b : ∀ us : List Value, us.length = ps.length → bindArgs (PySem.W.fnOf x x (defArgs st) (defBody st) (defScope st) .none kV doc pm an cdv ct) ⟨us, []⟩ = pure (ps.zip us)) : DefD g mg x st ps := by
  subst hK
  exact ⟨fa, _, fun_mk l c k, PySem.W.mg_of X G₀ a, .all b⟩
theorem defL_mk {x : Str} {st : Stmt} {ps : List Str} {fa cA : Addr} {oc kV doc pm ct : Value} {od an : Option Addr} {osl : Array (Option Value)} (X : K.In h) (G₀ : h.Ns mainGlobals mg) (hK : g.K = K) (hc : (g.cp x).1 = cA)
    (a : PySem.W.nsIn K mainGlobals x = some (some (.ref fa))) (l : K.lookup fa = some ⟨oc, od, .func (PySem.W.fnOf x x (defArgs st) (defBody st) (defScope st) .none kV doc pm an (.ref cA) ct), osl⟩)
    (c : PySem.W.codeIn K (.ref cA) x = true) (k : PySem.W.keepIn K (.ref fa) = true) (b : ∀ us : List Value, us.length = ps.length → bindArgs (PySem.W.fnOf x x (defArgs st) (defBody st) (defScope st) .none kV doc pm an (.ref cA) ct) ⟨us, []⟩ = pure (ps.zip us)) : DefL g mg x st ps := by
  subst hK
  subst hc
  exact ⟨fa, oc, kV, doc, pm, ct, od, an, osl, l, c, k, PySem.W.mg_of X G₀ a, .all b⟩
theorem told_mk {x e ret : Str} {st : Stmt} {a : Str} {Ng : List Str} {fa : Addr} {oc kV doc pm cdv ct : Value} {od an : Option Addr} {osl : Array (Option Value)} (X : K.In h) (G₀ : h.Ns mainGlobals mg) (hK : g.K = K)
    (ha : PySem.W.nsIn K mainGlobals x = some (some (.ref fa))) (l : K.lookup fa = some ⟨oc, od, .func (PySem.W.fnOf x x (defArgs st) (defBody st) (defScope st) .none kV doc pm an cdv ct), osl⟩)
    (c : PySem.W.codeIn K cdv x = true) (k : PySem.W.keepIn K (.ref fa) = true) (b : ∀ us : List Value, us.length = 1 → bindArgs (PySem.W.fnOf x x (defArgs st) (defBody st) (defScope st) .none kV doc pm an cdv ct) ⟨us, []⟩ = pure ([a].zip us))
    (sc : FnScope Ng [a] (defScope st)) (n0 : Ng[0]? = some a) (vi : Vis (defScope st) a) (hst : ∀ f : Addr, (L2.start Ng [V.ref f])[0]? = some (some (V.ref f)))
    (bd : ∃ (jj : Nat) (p1 p2 p3 p4 p5 p6 p7 p8 : Pos), defBody st = [.Try [.Return (some (.Call (.Name a p1) [] [] p2)) p3] [.ExceptHandler (some (.Name e p4)) none [.Return (some (.Constant (.str ret) jj p5)) p6] p7] [] [] p8])
    (ge : (defScope st).names.lookup e = some .globalImplicit) (de : (e == ("__debug__" : Str)) = false) (da : (a == ("__debug__" : Str)) = false) (dc : (a == ("__classdict__" : Str)) = false) (dx : (x == ("__debug__" : Str)) = false) : ToldD g mg x e ret := by
  subst hK
  exact ⟨fa, _, _, _, kV, doc, pm, cdv, ct, oc, an, od, osl, Ng, a, PySem.W.mg_of X G₀ ha, k, l, c, .all b, sc, n0, vi, hst, bd, ge, de, da, dc, dx⟩
theorem none_mk {x : Str} (X : K.In h) (G₀ : h.Ns mainGlobals mg) (a : PySem.W.nsIn K mainGlobals x = some none) : mg x = none := PySem.W.mg_none_of X G₀ a
theorem exD_mk {x : Str} {C : Addr} (X : K.In h) (G₀ : h.Ns mainGlobals mg) (hK : g.K = K) (hC : g.ga x = C) (a : PySem.W.nsIn K mainGlobals x = some (some (.ref C)))
    (xC : PySem.W.excIn K C [.type "ValueError", .type "Exception", .type "BaseException", .type "object"] "ValueError.__new__" = true)
    (kC : PySem.W.keepIn K (.ref C) = true) (bC : PySem.W.subIn K (.ref C) (.type "BaseException") = some true) (tC : PySem.W.typeIn K (.ref C) = some (.type "type")) : ExD g mg x := by
  subst hK
  subst hC
  exact ⟨PySem.W.mg_of X G₀ a, xC, kC, bC, tC⟩
theorem tabB_cast {x : Str} {c P : Addr} (e : g.cp x = (c, P)) (t : LamX.TabB base mg c P) : LamX.TabB base mg (g.cp x).1 (g.cp x).2 := by rw [e]; exact t
/-! constants -/
mutual
def chkD (K : PySem.W.Frag) : D → Value → Bool
  | .non, .none => true
  | .bl b, .bool b' => b == b'
  | .int i, .int j _ => i == j
  | .str x, .str y _ => x == y
  | .tup ds, .ref a => match K.lookup a with
    | some ⟨.type "tuple", _, .seq its _, _⟩ => Nat.ble its.size sizeLine && chkDs K ds its.toList
    | _ => false
  | _, _ => false
def chkDs (K : PySem.W.Frag) : List D → List Value → Bool
  | [], [] => true
  | d :: ds, u :: us => chkD K d u && chkDs K ds us
  | _, _ => false
end
mutual
theorem chkD_ok (hK : g.K = K) : ∀ {d : D} {u : Value}, chkD K d u = true → ∃ v, RelV v u ∧ ∀ μ H, Rep g μ H d v
  | .non, .none, _ => ⟨.non, rfl, fun _ _ => by unfold Rep; rfl⟩
  | .bl b, .bool b', e => ⟨.bl b, by unfold chkD at e; rw [beq_iff_eq.mp e] <;> rfl, fun _ _ => by unfold Rep; rfl⟩
  | .int i, .int j t, e => ⟨.int i, by unfold chkD at e; exact ⟨t, by rw [beq_iff_eq.mp e]⟩, fun _ _ => by unfold Rep; rfl⟩
  | .str x, .str y t, e => ⟨.str x, by unfold chkD at e; exact ⟨t, by rw [beq_iff_eq.mp e]⟩, fun _ _ => by unfold Rep; rfl⟩
  | .tup ds, .ref a, e => by
    unfold chkD at e
    split at e
    · rename_i dd its n sl lk
      simp only [Bool.and_eq_true, Nat.ble_eq] at e
      obtain ⟨vs, r, q⟩ := chkDs_ok hK e.2
      exact ⟨.ref a, rfl, fun μ H => by unfold Rep; exact ⟨a, vs, rfl, .inr ⟨_, its, n, by rw [hK]; exact lk, rfl, rfl, e.1, r⟩, q μ H⟩⟩
    · cases e
theorem chkDs_ok (hK : g.K = K) : ∀ {ds : List D} {us : List Value}, chkDs K ds us = true → ∃ vs, Vals vs us ∧ ∀ μ H, Reps g μ H ds vs
  | [], [], _ => ⟨[], .nil, fun _ _ => by unfold Reps; rfl⟩
  | d :: ds, u :: us, e => by
    unfold chkDs at e
    simp only [Bool.and_eq_true] at e
    obtain ⟨v, r, q⟩ := chkD_ok hK e.1
    obtain ⟨vs, rs, qs⟩ := chkDs_ok hK e.2
    exact ⟨v :: vs, .cons r rs, fun μ H => by unfold Reps; exact ⟨v, vs, rfl, q μ H, qs μ H⟩⟩
end
theorem glob_mk {x : Str} {d : D} {u : Value} (X : K.In h) (G₀ : h.Ns mainGlobals mg) (hK : g.K = K) (a : PySem.W.nsIn K mainGlobals x = some (some u)) (e : chkD K d u = true) : Glob g mg x d := by
  obtain ⟨v, r, q⟩ := chkD_ok hK e
  exact ⟨u, v, PySem.W.mg_of X G₀ a, r, q⟩
theorem exm_one {S : Addr} (h1 : PySem.W.subIn K (.ref S) (.type "BaseException") = some true) (h2 : PySem.W.isClsIn K S = true) (h3 : PySem.W.typeIn K (.ref S) = some (.type "type")) {C : Addr} {b : Bool} (h4 : PySem.W.subIn K (.ref C) (.ref S) = some b) :
    PySem.W.exmOne K (.ref C) (.ref S) = some b := by
  unfold PySem.W.isClsIn at h2
  unfold PySem.W.exmOne PySem.W.kitCls
  simp [h1, h2, h3, h4]
end
/-- the law's promise at the head -/
theorem law_at {l : PySem.W.OpenLaw} {w : World} {K : PySem.W.Frag} {mg : Str → Option Value} {h : Heap} {k n : Nat} {x : Str} {fa : Addr} {g : GC} {fd : FuncData} {f : List D → Store → R D} (cs : List (Addr × Addr)) (hK : g.K = K)
    (hT : ∀ p ∈ cs, h.get? p.2 = some { cls := .none, data := .fields #[] }) (nT : ∀ p ∈ cs, K.lookup p.2 = none) (C : ∀ p ∈ cs, PySem.W.CodeHd h p.1 p.2) (hb : ∀ (s : Shared) (u : Value), BindsTo s fd ⟨[u], []⟩ [(x, u)])
    (hg : ∀ p ∈ g.T, ∃ q ∈ cs, q.2 = p.1) (law : ∀ ns : List Int, ns.length ≤ n → ∃ st, f [.scr ns] [] = .ok (.bl true) st)
    (hF : ∀ base : Heap, K.In base → base.Ns mainGlobals mg → (∀ p ∈ cs, LamX.TabB base mg p.1 p.2) → FnOk l.prog w K mg base (L2.CX l.prog w) k fa fd [x] (spD g 1 f)) : LamX.LawAtS l w K (L2.CX l.prog w) k n x mg fa h := by
  subst hK
  refine ⟨fd, cs, spD g 1 f, hT, nT, C, hb, fun H a ns hl _ ht hs => ?_, hF⟩
  obtain ⟨st, e⟩ := law ns hl
  refine ⟨rfl, ⟨[], []⟩, [], [.scr ns], ⟨rfl, List.nodup_nil, fun a ha => (nomatch ha), fun n a o e => by simp at e, fun p hp => ?_⟩, ?_, ?_⟩
  · obtain ⟨q, hq, e⟩ := hg p hp
    exact LamX.TabS.nil (by rw [← e]; exact ht q hq)
  · refine ⟨.ref a, [], rfl, ?_, rfl⟩
    unfold Rep
    refine ⟨a, rfl, ?_⟩
    rcases hs with hs | hs
    · exact .inl ⟨⟨List.not_mem_nil, List.not_mem_nil⟩, hs⟩
    · refine .inr ?_
      exact hs
  · rw [e]
    intro μ' H' L S' v r
    unfold Rep at r
    exact r
theorem law_end {l : PySem.W.OpenLaw} {w : World} {K : PySem.W.Frag} {mg : Str → Option Value} {h : Heap} {k n : Nat} {x : Str} {fa fL cL : Addr} {g : GC} {s : Stmt} {f : List D → Store → R D} (cs : List (Addr × Addr))
    {oc kV doc pm ct : Value} {od an : Option Addr} {osl : Array (Option Value)} (X : K.In h) (G₀ : h.Ns mainGlobals mg) (hK : g.K = K) (hm : mg "law" = some (.ref fa)) (a : PySem.W.nsIn K mainGlobals "law" = some (some (.ref fL)))
    (lk : K.lookup fL = some ⟨oc, od, .func (PySem.W.fnOf "law" "law" (defArgs s) (defBody s) (defScope s) .none kV doc pm an (.ref cL) ct), osl⟩) (hcd : PySem.W.codeIn K (.ref cL) "law" = true)
    (hT : ∀ p ∈ cs, h.get? p.2 = some { cls := .none, data := .fields #[] }) (nT : ∀ p ∈ cs, K.lookup p.2 = none) (C : ∀ p ∈ cs, PySem.W.CodeHd h p.1 p.2)
    (hb : ∀ us : List Value, us.length = 1 → bindArgs (PySem.W.fnOf "law" "law" (defArgs s) (defBody s) (defScope s) .none kV doc pm an (.ref cL) ct) ⟨us, []⟩ = pure ([x].zip us))
    (hg : ∀ p ∈ g.T, ∃ q ∈ cs, q.2 = p.1) (law : ∀ ns : List Int, ns.length ≤ n → ∃ st, f [.scr ns] [] = .ok (.bl true) st)
    (hF : ∀ base : Heap, K.In base → base.Ns mainGlobals mg → (∀ p ∈ cs, LamX.TabB base mg p.1 p.2) →
      g.K.lookup fL = some ⟨oc, od, .func (PySem.W.fnOf "law" "law" (defArgs s) (defBody s) (defScope s) .none kV doc pm an (.ref cL) ct), osl⟩ → PySem.W.codeIn g.K (.ref cL) "law" = true →
      FnOk l.prog w g.K mg base (L2.CX l.prog w) k fL (PySem.W.fnOf "law" "law" (defArgs s) (defBody s) (defScope s) .none kV doc pm an (.ref cL) ct) [x] (spD g 1 f)) : LamX.LawAtS l w K (L2.CX l.prog w) k n x mg fa h := by
  have e := hm.symm.trans (PySem.W.mg_of X G₀ a)
  cases e
  subst hK
  exact law_at cs rfl hT nT C (fun s u => .of_eq (hb [u] rfl)) hg law fun base h1 h2 h3 => hF base h1 h2 h3 lk hcd
end G

namespace G
open PySem L2 PySem.Spec PyProof.Rows GenW
/-! ### generator expressions -/
/-- who takes what a generator hands out: the objects that are its own, what it knows of them behind ys, what it asks of the j-th item -/
structure Con where
  as : List Addr
  inv : List V → List (Addr × Obj) → Prop
  item : Nat → V → Prop
structure Con.Ok (C : Con) : Prop where
  at_ : ∀ ys cp, C.inv ys cp → cp.map (·.1) = C.as
  nc : ∀ ys cp, C.inv ys cp → ∀ p ∈ cp, ∀ v, p.2.data ≠ .cell v
/-- while the generator sleeps -/
structure Slp (C : Con) (s s' : Shared) : Prop where
  os : s'.os = s.os
  bare : AllBare s'.gens
  keep : ∀ b o, b ∉ C.as → s.heap.get? b = some o → s'.heap.get? b = some o
def Ap (X : Cx) (C : Con) : Prop := ∀ S ∈ C.as, X.s_0.heap.objs.size ≤ S ∧ S ≠ X.env.locals ∧ (∀ x c, X.env.cells.lookup x = some c → c ≠ S) ∧ ∀ p ∈ X.pn, p.1 ≠ S
section
variable {X : Cx} {g : GC} {C : Con} {ip cp cp' : List (Addr × Obj)} {σ : L2.St} {H : Hp} {s s' : Shared} {ys : List V} {x : V}
theorem mem_as (CO : C.Ok) (h : C.inv ys cp) {p : Addr × Obj} (hp : p ∈ cp) : p.1 ∈ C.as := by
  rw [← CO.at_ _ _ h]
  exact List.mem_map_of_mem hp
theorem of_as (CO : C.Ok) (h : C.inv ys cp) {S : Addr} (hS : S ∈ C.as) : ∃ o, (S, o) ∈ cp := by
  rw [← CO.at_ _ _ h] at hS
  obtain ⟨p, hp, e⟩ := List.mem_map.mp hS
  exact ⟨p.2, by rw [← e]; exact hp⟩
theorem woken (CO : C.Ok) (hA : Ap X C) (hip : ∀ p ∈ ip, p.1 ∉ C.as) (h : C.inv ys cp) (h' : C.inv (ys ++ [x]) cp') (I : Inv X (cp ++ ip) σ H s) (z : Slp C s s') (hat : ∀ p ∈ cp', s'.heap.get? p.1 = some p.2) : Inv X (cp' ++ ip) σ H s' := by
  have fS : ∀ S ∈ C.as, H S = none ∧ S ≠ X.env.locals ∧ S ∉ X.fs := fun S hS => by
    obtain ⟨o, ho⟩ := of_as CO h hS
    obtain ⟨_, h2, h3, h4, _⟩ := I.pin (S, o) (List.mem_append_right _ (List.mem_append_left _ ho))
    exact ⟨h2, h3, h4⟩
  have I0 : Inv X ip σ H s := I.pins_of fun p hp => I.pin p (List.mem_append_right _ (List.mem_append_right _ hp))
  have nt : ∀ b u, H b = some u → b ∉ C.as := fun b u q hb => by rw [(fS b hb).1] at q; cases q
  obtain ⟨z1, z2, z3⟩ := z
  obtain ⟨hh, gg, d, t, o⟩ := s'
  have ho : o = s.os := z1
  subst ho
  have J : Inv X ip σ H { s with heap := hh, gens := gg, drawn := d, toks := t } := by
    refine I0.step (g' := gg) (t' := t) (d' := d) (ch := C.as) (fun b hb => ?_)
      (fun b ob _ _ hc q _ => z3 b ob hc q) (fun b ob _ _ hc q _ => ⟨ob.slots, z3 b ob hc q⟩) (fun _ _ _ _ n => n) (fun b ob hc q => ⟨ob, z3 b ob hc q⟩)
      (fun _ _ q => q) (fun _ _ _ q => q) (fun b ps q => ⟨#[], by rw [q]; simp⟩) (fun m hm => ?_) (fun b u q => ?_) z2
    · obtain ⟨a1, a2, a3, a4⟩ := hA b hb
      refine ⟨.inr a1, a2, a3, fun p hp => ?_⟩
      rcases List.mem_append.mp hp with hp | hp
      · exact a4 p hp
      · exact fun e => hip p hp (by rw [e]; exact hb)
    · obtain ⟨ob, es, ep, ho, r⟩ := hm
      exact ⟨ob, es, ep, z3 _ ob (fun hb => (hA _ hb).2.1 rfl) ho, r⟩
    · refine (I0.hok b u q).stay (fun c v hc y => z3 c v ?_ y) (fun _ y => y) fun _ _ y => y
      rcases hc with y | y
      · rw [y]; exact nt b u q
      · exact nt c _ y
  refine J.pins_of fun p hp => ?_
  rcases List.mem_append.mp hp with hp | hp
  · obtain ⟨f1, f2, f3⟩ := fS p.1 (mem_as CO h' hp)
    exact ⟨hat p hp, f1, f2, f3, CO.nc _ _ h' p hp⟩
  · exact J.pin p (List.mem_append_right _ hp)
end
theorem wipe_in : ∀ {vs : List Nat} {env : Env} {j : Nat} {d : D}, (wipeE env vs)[j]? = some (some d) → j ∉ vs
  | [], _, _, _, _ => List.not_mem_nil
  | v :: vs, env, j, d, h => by
    have h : ((wipeE env vs).set v none)[j]? = some (some d) := h
    intro hj
    by_cases e : v = j
    · subst e
      by_cases hl : v < (wipeE env vs).length
      · rw [List.getElem?_set_self hl] at h; cases h
      · rw [List.getElem?_eq_none (by rw [List.length_set]; omega)] at h; cases h
    · rw [List.getElem?_set_ne e] at h
      exact wipe_in h ((List.mem_cons.mp hj).resolve_left fun q => e q.symm)
theorem wipe_none : ∀ {vs : List Nat} {σ : L2.St} {j : Nat} {v : V}, j ∈ vs → (L2.wipe σ vs)[j]? = some (some v) → False
  | v :: vs, σ, j, d, hj, h => by
    have h : ((L2.wipe σ vs).set v none)[j]? = some (some d) := h
    by_cases e : v = j
    · subst e
      by_cases hl : v < (L2.wipe σ vs).length
      · rw [List.getElem?_set_self hl] at h; cases h
      · rw [List.getElem?_eq_none (by rw [List.length_set]; omega)] at h; cases h
    · rw [List.getElem?_set_ne e] at h
      exact wipe_none ((List.mem_cons.mp hj).resolve_left fun q => e q.symm) h
theorem RelE.but {g : GC} {μ : Mp} {H : Hp} {env : Env} {vs is : List Nat} {σ σ' : L2.St} (E : RelE g μ H (wipeE env vs) σ) (hv : ∀ i ∈ is, i ∈ vs) (b : But is σ σ') : RelE g μ H (wipeE env vs) σ' := by
  refine ⟨E.len.trans b.1.symm, fun i d e => ?_⟩
  rw [b.2 i fun z => wipe_in e (hv i z)]
  exact E.at_ i d e
/-- the items of a run that may end at the first True -/
def isTT : D → Bool
  | .bl true => true
  | _ => false
theorem isTT_eq {d : D} (h : isTT d = true) : d = .bl true := by
  unfold isTT at h
  split at h
  · rfl
  · cases h
theorem rep_tt {g : GC} {μ : Mp} {H : Hp} {d : D} (r : Rep g μ H d (.bl true)) : isTT d = true := by
  cases d with
  | bl b =>
    have r : V.bl true = .bl b := r
    cases r
    rfl
  | tup ds => obtain ⟨a, vs, e, _⟩ := r; cases e
  | lst ds => obtain ⟨a, vs, e, _⟩ := r; cases e
  | dic ks ds => obtain ⟨a, vs, o, e, _⟩ := r; cases e
  | ref n => obtain ⟨a, e, _⟩ := r; cases e
  | lam n => obtain ⟨a, _, _, _, _, e, _⟩ := r; cases e
  | scr ns => obtain ⟨a, e, _⟩ := r; cases e
  | fn x => cases (show V.bl true = .ref _ from r)
  | non => cases (show V.bl true = .non from r)
  | int i => cases (show V.bl true = .int i from r)
  | str x => cases (show V.bl true = .str x from r)
def lcS (stp : Bool) (gt : DG) (ft : DT) (fe : DE) (gd : Gd) : List D → Env → Store → R (List D)
  | [], _, st => if gdOk gd st = true then .ok [] st else .bad
  | d :: ds, env, st => if gdOk gd st = true then (match gt d env with
    | none => .bad
    | some env1 => (ft env1 st).b fun b st => if b = true then (fe env1 st).b fun x st => (if stp = true ∧ isTT x = true then .ok [x] st else (lcS stp gt ft fe gd ds env st).b fun xs st => .ok (x :: xs) st) else lcS stp gt ft fe gd ds env st) else .bad
theorem lcS_false (gt : DG) (ft : DT) (fe : DE) (gd : Gd) : ∀ (ds : List D) (env : Env) (st : Store), lcS false gt ft fe gd ds env st = lcD gt ft fe gd ds env st
  | [], _, _ => rfl
  | d :: ds, env, st => by
    unfold lcS lcD
    have ih := fun st => lcS_false gt ft fe gd ds env st
    simp only [Bool.false_eq_true, false_and, if_false, ih]
    try (cases gt d env <;> rfl)
/-- what is handed out -/
def GxY (X : Cx) (g : GC) (C : Con) (μ1 : Mp) (H1 : Hp) (stp : Bool) (st2 : Store) : Protocol := fun n _ v s kap => ∃ ys x cp ip σ H, n + 1 + ys.length = sizeLine ∧ RelV x v ∧ C.item ys.length x ∧ C.inv ys cp ∧ Inv X (cp ++ ip) σ H s ∧ (∃ μ, Le μ1 H1 μ H ∧ (stp = true → x = .bl true → RelS g μ H st2)) ∧ ∀ s' cp', Slp C s s' → C.inv (ys ++ [x]) cp' → (∀ p ∈ cp', s'.heap.get? p.1 = some p.2) → kap (.send .none) s'
/-- the end -/
def GxR (X : Cx) (g : GC) (C : Con) (μ1 : Mp) (H1 : Hp) (outs : List D) (st2 : Store) : GenEnd := fun n _ r s1 => r = .ok .next ∧ ∃ ys cp σ H μ, n + ys.length = sizeLine ∧ C.inv ys cp ∧ Inv X cp σ H s1 ∧ Le μ1 H1 μ H ∧ RelS g μ H st2 ∧ Reps g μ H outs ys
section
variable {X : Cx} {g : GC} {C : Con} {A : Around} {elt tg iter : Expr} {ifs : List Expr} {scope : Scope} {pos : Pos} {it : Addr} {fp : List Addr} {tn : Nat → Heap → Prop} {J : It} {is vs : List Nat} {gt : DG} {ft : DT} {fe : DE} {gd : Gd} {μ1 : Mp} {H1 : Hp} {st2 : Store} {env : Env} {ds outs : List D}
theorem gx_loop {stp : Bool} (hst : stp = true → ∀ ys cp, C.inv (ys ++ [.bl true]) cp → False) (hA : A.over (.compLoop (.GeneratorExp elt [⟨tg, iter, ifs, 0⟩] scope pos) 0 (.ref it) .none X.env) [] = X.A) (hxe : ∀ e s, X.xe e s → False) (hcalm : X.calm = true) (hco : X.env.scope.isCoroutine = false) (CO : C.Ok) (hAp : Ap X C) (hfp : ∀ b ∈ fp, b ∉ C.as)
    (T : Turn X.prog X.w X.K tg J fp it tn) (hg : PGD X g tg is gt) (ht : PTsD X g W0 ifs ft) (he : PD X g W0 elt fe) (hv : ∀ i ∈ is, i ∈ vs) (hl : ds.length ≤ 16777216) (hit : ∀ j d x μ H, outs[j]? = some d → Rep g μ H d x → C.item j x) :
    ∀ (m i n : Nat) (s₀ s : Shared) (ys : List V) (od : List D) (cp : List (Addr × Obj)) (σ : L2.St) (H : Hp) (μ : Mp) (st : Store), ds.length - i = m → i ≤ ds.length → n + ys.length = sizeLine → ys.length ≤ i → C.inv ys cp → Inv X cp σ H s → (∀ b ∈ fp, FpOk X cp H b) → tn i s.heap →
      Le μ1 H1 μ H → RelS g μ H st → RelE g μ H (wipeE env vs) σ → ItOk g J ds gd μ H → Reps g μ H od ys → (∃ xs, lcS stp gt ft fe gd (ds.drop i) (wipeE env vs) st = .ok xs st2 ∧ outs = od ++ xs) →
      Seg (model X.prog X.w) A (GxR X g C μ1 H1 outs st2) (GxY X g C μ1 H1 stp st2) n s₀ (.compLoop (.GeneratorExp elt [⟨tg, iter, ifs, 0⟩] scope pos) 0 (.ref it) .none X.env)
        ((model X.prog X.w).den (.compLoop (.GeneratorExp elt [⟨tg, iter, ifs, 0⟩] scope pos) 0 (.ref it) .none X.env)) [] s := by
  intro m
  induction m with
  | zero =>
    intro i n s₀ s ys od cp σ H μ st hm hi hn hy hc I hf htn L S E hJ rd ⟨xs, e, eo⟩
    have hin : i = ds.length := by omega
    subst hin
    rw [List.drop_length] at e
    have e : (if gdOk gd st = true then R.ok [] st else R.bad) = .ok xs st2 := e
    split at e
    · rename_i hgd
      cases e
      have hstop := (hJ μ H _ Lw.refl S hgd).2
      show Seg _ A _ _ _ s₀ _ ((compTurn (.GeneratorExp elt [⟨tg, iter, ifs, 0⟩] scope pos) 0 (.ref it) .none X.env).onRaise (leaving X.env)) [] s
      rw [compTurn_gen, Sem.onRaise_eq_wrap]
      refine seg_bind_wrap (wpAny_standAt ?_)
      refine seg_bind_wrap ?_
      rw [hA]
      refine thn (T.done X rfl rfl rfl hcalm ds.length cp s σ H _ I hf htn hstop) fun r s1 hr => ?_
      obtain ⟨hr, I1⟩ := hr
      subst hr
      refine seg_end (.ok .next) ⟨rfl, ys, cp, σ, H, μ, hn, hc, I1, L, S, ?_⟩
      rw [eo, List.append_nil]
      exact rd
    · cases e
  | succ m ih =>
    intro i n s₀ s ys od cp σ H μ st hm hi hn hy hc I hf htn L S E hJ rd ⟨xs, e, eo⟩
    have hlt : i < ds.length := by omega
    rw [List.drop_eq_getElem_cons hlt] at e
    have e : (if gdOk gd st = true then (match gt ds[i] (wipeE env vs) with
      | none => R.bad
      | some env1 => (ft env1 st).b fun b st => if b = true then (fe env1 st).b fun x st => (if stp = true ∧ isTT x = true then .ok [x] st else (lcS stp gt ft fe gd (ds.drop (i + 1)) (wipeE env vs) st).b fun xs st => .ok (x :: xs) st) else lcS stp gt ft fe gd (ds.drop (i + 1)) (wipeE env vs) st) else R.bad) = .ok xs st2 := e
    split at e
    · rename_i hgd
      obtain ⟨hgo, hyl⟩ := (hJ μ H st Lw.refl S hgd).1 i ds[i] (List.getElem?_eq_getElem hlt)
      cases eg : gt ds[i] (wipeE env vs) with
      | none => rw [eg] at e; cases e
      | some env2 =>
        rw [eg] at e
        have e : ((ft env2 st).b fun b st => if b = true then (fe env2 st).b fun x st => (if stp = true ∧ isTT x = true then .ok [x] st else (lcS stp gt ft fe gd (ds.drop (i + 1)) (wipeE env vs) st).b fun xs st => .ok (x :: xs) st) else lcS stp gt ft fe gd (ds.drop (i + 1)) (wipeE env vs) st) = .ok xs st2 := e
        have xf : ∀ {α : Type} {t : Sem α} {Q : α → Shared → Prop} {E' : Value → Shared → Prop} {s : Shared}, wpAny (model X.prog X.w) X.A t Q X.xe s → wpAny (model X.prog X.w) X.A t Q E' s := fun h => wpAny_mono h (fun _ _ z => z) fun _ _ z => (hxe _ _ z).elim
        show Seg _ A _ _ _ s₀ _ ((compTurn (.GeneratorExp elt [⟨tg, iter, ifs, 0⟩] scope pos) 0 (.ref it) .none X.env).onRaise (leaving X.env)) [] s
        rw [compTurn_gen, Sem.onRaise_eq_wrap]
        refine seg_bind_wrap (wpAny_standAt ?_)
        refine seg_bind_wrap ?_
        rw [hA]
        refine thn (T.item X rfl rfl rfl hcalm i cp s σ H _ I hf htn hgo) fun r s1 hr => ?_
        obtain ⟨u, hr, h1⟩ := hr
        subst hr
        refine seg_bind_wrap ?_
        rw [hA]
        refine thn h1 fun _ s2 h2 => ?_
        obtain ⟨x, H2, I2, rx, y2, tn2, fr2⟩ := h2
        obtain ⟨Lb, S2, r2⟩ := hyl x H2 y2
        have I2' := I2.pinned (fun b hb => (⟨fr2 b hb, (hf b hb).2⟩ : FpOk X cp H2 b)) (T.obj _ _ tn2)
        have hip : ∀ p ∈ pinsAt fp s2.heap, p.1 ∉ C.as := fun p hp => hfp _ (of_pinsAt hp).1
        have back : ∀ {σ' : L2.St} {H' : Hp} {s' : Shared} {cq : List (Addr × Obj)}, Inv X (cq ++ pinsAt fp s2.heap) σ' H' s' → (∀ b ∈ fp, H' b = none) ∧ tn (i + 1) s'.heap := fun {σ' H' s' cq} I' =>
          ⟨fun b hb => by
            obtain ⟨o, eo, _⟩ := T.obj _ _ tn2 b hb
            exact (I'.pin (b, o) (List.mem_append_right _ (List.mem_append_right _ (mem_pinsAt hb eo)))).2.1,
          T.keep _ _ _ tn2 fun b hb o eo => (I'.pin (b, o) (List.mem_append_right _ (List.mem_append_right _ (mem_pinsAt hb eo)))).1⟩
        refine seg_bind_wrap ?_
        rw [hA]
        refine xf (thn (hg.run _ s2 σ H2 x u (fun σ3 H3 => H3 = H2 ∧ RelE g μ H2 env2 σ3 ∧ But is σ σ3) I2' rx ⟨μ, wipeE env vs, st, ds[i], S2, E.le Lb, r2, env2, eg, fun σ' E' bt => ⟨rfl, E', bt⟩⟩) fun _ s3 h3 => ?_)
        obtain ⟨σ3, H3, I3, eH, E3, bt⟩ := h3
        rw [eH] at I3
        have E3w := (E.le Lb).but hv bt
        refine seg_bind_wrap ?_
        rw [hA]
        cases et : ft env2 st with
        | ex c st3 => rw [et] at e; cases e
        | bad => rw [et] at e; cases e
        | ok bb st3 =>
          rw [et] at e
          refine xf (thn (ht.run _ s3 σ3 H2 (fun b H4 => ∃ μ3, Le μ H2 μ3 H4 ∧ RelS g μ3 H4 st3 ∧ b = bb) I3 ⟨μ, env2, st, S2, E3, by rw [et]; exact fun μ3 H4 L3 S3 => ⟨μ3, L3, S3, rfl⟩⟩) fun b s4 h4 => ?_)
          obtain ⟨H4, I4, μ3, L3, S3, eb⟩ := h4
          subst eb
          have L23 := Lb.trans L3
          cases b with
          | false =>
            obtain ⟨n1, n2⟩ := back I4
            simp only [Bool.false_eq_true, if_false]
            exact seg_again rfl (ih (i + 1) n s₀ s4 ys od cp σ3 H4 μ3 st3 (by omega) hlt hn (by omega) hc I4.unpinned (fun b hb => ⟨n1 b hb, (hf b hb).2⟩) n2 (L.trans L23) S3 (E3w.le L3) (hJ.le L23.toLw) (rd.le L23) ⟨xs, e, eo⟩)
          | true =>
            simp only [if_true]
            have hyo : ∀ v, yieldOut X.env v = yieldValue v := fun v => by simp only [yieldOut, hco, Bool.false_eq_true, if_false]
            simp only [hyo]
            rw [Sem.bind_eq_wrap', Sem.bind_eq_wrap', Sem.wrap_wrap, Sem.wrap_wrap]
            have e : ((fe env2 st3).b fun x st => (if stp = true ∧ isTT x = true then .ok [x] st else (lcS stp gt ft fe gd (ds.drop (i + 1)) (wipeE env vs) st).b fun xs st => .ok (x :: xs) st)) = .ok xs st2 := e
            cases ee : fe env2 st3 with
            | ex c st4 => rw [ee] at e; cases e
            | bad => rw [ee] at e; cases e
            | ok yd st4 =>
              rw [ee] at e
              have e : (if stp = true ∧ isTT yd = true then R.ok [yd] st4 else (lcS stp gt ft fe gd (ds.drop (i + 1)) (wipeE env vs) st4).b fun xs st => .ok (yd :: xs) st) = .ok xs st2 := e
              obtain ⟨hout, hrest, hend⟩ : (∃ r, xs = yd :: r) ∧ (¬ (stp = true ∧ isTT yd = true) → ∃ xs2, lcS stp gt ft fe gd (ds.drop (i + 1)) (wipeE env vs) st4 = .ok xs2 st2 ∧ xs = yd :: xs2) ∧ (stp = true ∧ isTT yd = true → st4 = st2) := by
                split at e
                · rename_i hh
                  cases e
                  exact ⟨⟨_, rfl⟩, fun n => absurd hh n, fun _ => rfl⟩
                · rename_i hh
                  cases er : lcS stp gt ft fe gd (ds.drop (i + 1)) (wipeE env vs) st4 with
                  | ex c st5 => rw [er] at e; cases e
                  | bad => rw [er] at e; cases e
                  | ok xs2 st5 =>
                    rw [er] at e
                    cases e
                    exact ⟨⟨_, rfl⟩, fun _ => ⟨_, rfl, rfl⟩, fun n => absurd n hh⟩
              obtain ⟨r0, hr0⟩ := hout
              refine seg_wrap ?_
              rw [hA]
              refine xf (thn (he.run _ s4 σ3 H4 (fun v H5 => ∃ μ4, Le μ3 H4 μ4 H5 ∧ RelS g μ4 H5 st4 ∧ Rep g μ4 H5 yd v) I4 ⟨μ3, env2, st3, S3, E3.le L3, by rw [ee]; exact fun μ4 H5 L4 S4 v rv => ⟨μ4, L4, S4, rv⟩⟩) fun uv s5 h5 => ?_)
              obtain ⟨v, H5, I5, rv, μ4, L4, S4, rd4⟩ := h5
              have L24 := L23.trans L4
              obtain ⟨n', rfl⟩ : ∃ n', n = n' + 1 := ⟨n - 1, by rw [sizeLine_eq] at hn; omega⟩
              have hj : outs[ys.length]? = some yd := by
                rw [eo, ← rd.len, hr0]
                simp
              refine seg_at (seg_yield rfl rfl rfl ⟨ys, v, cp, pinsAt fp s2.heap, σ3, H5, hn, rv, hit _ _ _ _ _ hj rd4, hc, I5, ⟨μ4, L.trans L24, fun h1 h2 => ?_⟩, fun s'' cp' z hc' hat => ?_⟩)
              · rw [h2] at rd4
                rw [← hend ⟨h1, rep_tt rd4⟩]
                exact S4
              · by_cases hh : stp = true ∧ isTT yd = true
                · have rd5 := rd4
                  rw [isTT_eq hh.2] at rd5
                  have rd5 : v = .bl true := rd5
                  rw [rd5] at hc'
                  exact (hst hh.1 _ _ hc').elim
                · obtain ⟨xs2, er, ex⟩ := hrest hh
                  have I6 := woken CO hAp hip hc hc' I5 z hat
                  obtain ⟨n1, n2⟩ := back I6
                  refine seg_again rfl (ih (i + 1) n' s'' s'' (ys ++ [v]) (od ++ [yd]) cp' σ3 H5 μ4 st4 (by omega) hlt (by simp; omega) (by simp; omega) hc' I6.unpinned (fun b hb => ⟨n1 b hb, (hf b hb).2.1, (hf b hb).2.2.1, (hf b hb).2.2.2.1, (hf b hb).2.2.2.2.1, fun p hp => (List.mem_append.mp hp).elim (fun z => (hf b hb).2.2.2.2.2 p (List.mem_append_left _ z)) fun z => fun w => hfp b hb (by rw [← w]; exact mem_as CO hc' z)⟩) n2 (L.trans L24) S4 ((E3w.le L3).le L4) (hJ.le L24.toLw) ((rd.le L24).append ⟨v, [], rfl, rd4, rfl⟩) ⟨xs2, er, by rw [eo, ex]; simp⟩)
    · cases e
end
theorem over_comp {A : Around} {elt tg iter : Expr} {ifs : List Expr} {scope : Scope} {pos : Pos} {it : Value} {env : PySem.Env} : A.over (.compLoop (.GeneratorExp elt [⟨tg, iter, ifs, 0⟩] scope pos) 0 it .none env) [] = A.deeper env := by
  obtain ⟨hd, d, fr, gs, u⟩ := A
  cases fr <;> cases gs <;> rfl
section
variable {X : Cx} {g : GC} {C : Con} {A : Around} {elt tg iter : Expr} {ifs : List Expr} {scope : Scope} {pos : Pos} {it : Addr} {fp : List Addr} {tn : Nat → Heap → Prop} {J : It}
theorem gx_start {R : GenEnd} {Y : Protocol} {n : Nat} {s₀ s : Shared} {env : PySem.Env} {P : Program} {w : World} {K : PySem.W.Frag} (T : Turn P w K tg J fp it tn) (htn : tn 0 s.heap)
    (loop : Seg (model P w) A R Y n s₀ (.compLoop (.GeneratorExp elt [⟨tg, iter, ifs, 0⟩] scope pos) 0 (.ref it) .none env) ((model P w).den (.compLoop (.GeneratorExp elt [⟨tg, iter, ifs, 0⟩] scope pos) 0 (.ref it) .none env)) [] s) :
    Seg (model P w) A R Y n s₀ (.compStart (.GeneratorExp elt [⟨tg, iter, ifs, 0⟩] scope pos) 0 (.ref it) .none env) ((model P w).den (.compStart (.GeneratorExp elt [⟨tg, iter, ifs, 0⟩] scope pos) 0 (.ref it) .none env)) [] s := by
  show Seg _ A _ _ _ s₀ _ ((compStart (.GeneratorExp elt [⟨tg, iter, ifs, 0⟩] scope pos) 0 (.ref it) .none env).onRaise (leaving env)) [] s
  unfold compStart
  rw [Sem.onRaise_eq_wrap]
  show Seg _ A _ _ _ s₀ _ ((ask >>= _).wrap _ _ _ _) [] s
  refine seg_bind_wrap (wpAny_askSetting ?_)
  split
  · exact seg_again rfl loop
  · refine seg_bind_wrap (wpAny_rule ?_)
    show Seg _ A _ _ _ s₀ _ ((standAt iter.pos >>= _).wrap _ _ _ _) [] s
    exact seg_bind_wrap (wpAny_standAt (seg_bind_wrap (T.self _ 0 s _ _ htn (seg_again rfl loop))))
/-! ### the generator's frame -/
/-- the scope of a generator expression: its own names (own: with their places), the walked thing, captured names -/
structure GxS (N : List Str) (sc scope : Scope) (own : List (Str × Nat)) : Prop where
  kind : scope.kind = .function
  co : scope.isCoroutine = false
  cell : ∀ y ∈ scope.names, y.2 ≠ .cell
  dot : scope.names.lookup (".0" : Str) = some NameKind.local
  own : ∀ y ∈ scope.names, y.2 = .local → y.1 = (".0" : Str) ∨ ∃ i, (y.1, i) ∈ own ∧ N[i]? = some y.1
  nd : (".0" : Str) ∉ N
  free : ∀ y ∈ scope.names, y.2 = .free → sc.names.lookup y.1 = some .cell ∨ sc.names.lookup y.1 = some .free
def gxSB (N : List Str) (sc scope : Scope) (own : List (Str × Nat)) : Bool :=
  decide (scope.kind = .function) && !scope.isCoroutine && decide (scope.names.lookup (".0" : Str) = some NameKind.local) && !N.contains (".0" : Str) && scope.names.all fun y => !decide (y.2 = .cell) &&
    (!decide (y.2 = .local) || y.1 == (".0" : Str) || own.any fun p => p.1 == y.1 && N[p.2]? == some y.1) && (!decide (y.2 = .free) || decide (sc.names.lookup y.1 = some .cell) || decide (sc.names.lookup y.1 = some .free))
theorem gxS_by {N : List Str} {sc scope : Scope} {own : List (Str × Nat)} (h : gxSB N sc scope own = true) : GxS N sc scope own := by
  unfold gxSB at h
  simp only [Bool.and_eq_true, Bool.or_eq_true, Bool.not_eq_true', decide_eq_true_eq, decide_eq_false_iff_not, List.all_eq_true, List.any_eq_true, beq_iff_eq] at h
  obtain ⟨⟨⟨⟨h1, h2⟩, h3⟩, h4⟩, h5⟩ := h
  refine ⟨h1, h2, fun y hy => (h5 y hy).1.1, h3, fun y hy e => ?_, fun z => ?_, fun y hy e => ?_⟩
  · rcases (h5 y hy).1.2 with (z | z) | ⟨p, hp, z1, z2⟩
    · exact absurd e z
    · exact .inl z
    · exact .inr ⟨p.2, by rw [← z1]; exact hp, z2⟩
  · rw [List.contains_eq_mem] at h4
    exact of_decide_eq_false h4 z
  · rcases (h5 y hy).2 with (z | z) | z
    · exact absurd e z
    · exact .inl z
    · exact .inr z
abbrev gxEnv (X : Cx) (scope : Scope) (L : Addr) (code : Value) : PySem.Env := genEnv scope (cloFrom X.env.cells scope.names []) L code builtinsNs X.env
def gxCx (X : Cx) (A : Around) (s : Shared) (H : Hp) (env : PySem.Env) (fp : List Addr) (pn : List (Addr × Obj)) : Cx where
  prog := X.prog
  w := X.w
  K := X.K
  mg := X.mg
  base := X.base
  A := A.deeper env
  N := X.N
  s_0 := s
  H_0 := H
  env := env
  outer := X.stack
  stack := env :: X.stack
  ex := fp
  fn := fun _ => false
  calm := true
  pn := pn
  xe := fun _ _ => False
theorem gx_inv {pins : List (Addr × Obj)} {σ : L2.St} {H : Hp} {s s2 : Shared} {L a : Addr} {go : Obj} {code : Value} {own : List (Str × Nat)} (I : Inv X pins σ H s) (S : GxS X.N X.env.scope scope own) (hN : X.N.Nodup) (hfr : A.frames = some X.stack) (hd : A.handled = none)
    (hL : s.heap.objs.size ≤ L) (ha : s.heap.objs.size ≤ a) (haL : a ≠ L) (hk : ∀ b o, s.heap.get? b = some o → s2.heap.get? b = some o) (hos : s2.os = s.os) (hb : AllBare s2.gens) (hns : s2.heap.Ns L fun y => if y = (".0" : Str) then some (.ref it) else none) (hga : s2.heap.get? a = some go) (hgc : ∀ v, go.data ≠ .cell v)
    (hfp : ∀ b ∈ fp, FpOk X pins H b) (hob : ∀ b ∈ fp, ∃ o, s.heap.get? b = some o) : Inv (gxCx X A s H (gxEnv X scope L code) fp [(a, go)]) [] (L2.wipe σ (own.map (·.2))) H s2 := by
  have e0 := I.env0
  have hfree : ∀ y ∈ scope.names, y.2 = .free → ∃ c, X.env.cells.lookup y.1 = some c := fun y hy e => by
    rcases S.free y hy e with k | k
    · exact I.ok.has _ (.inl k)
    · exact I.ok.has _ (.inr k)
  have cm : ∀ {y c}, (cloFrom X.env.cells scope.names []).lookup y = some c → X.env.cells.lookup y = some c := fun {y c} e => by
    rcases cloFrom_mem (PySem.mem_of_lookup e) with hm | ⟨h1, h2⟩
    · cases hm
    · obtain ⟨c1, hc⟩ := hfree _ h1 rfl
      have hc : X.env.cells.lookup y = some c1 := hc
      have e2 : c = c1 := by rw [h2, hc] <;> rfl
      rw [e2]
      exact hc
  have look : ∀ {y}, scope.names.lookup y = some .free → ∃ c, (cloFrom X.env.cells scope.names []).lookup y = some c := fun {y} hl => by
    have hy : (y, NameKind.free) ∈ scope.names := PySem.mem_of_lookup hl
    exact mem_lookup (cloFrom_has (cells := X.env.cells) (acc := []) hy)
  have nof : ∀ {b}, s.heap.objs.size ≤ b → b ∉ frs X.stack := fun {b} h z => by
    rcases List.mem_cons.mp (I.stkSub _ z) with e | e
    · have h1 := I.lt
      rw [← e] at h1
      exact Nat.lt_irrefl _ (Nat.lt_of_lt_of_le h1 h)
    · exact I.nofs h e
  have old : ∀ {b}, b ∈ fp → b < s.heap.objs.size := fun {b} hb => by
    obtain ⟨o, e⟩ := hob b hb
    exact Heap.lt_size e
  refine ⟨⟨e0.mod, S.kind, I.ok.glob, rfl, hL, fun y z c e1 e2 => I.ok.inj y z c (cm e1) (cm e2), fun y hy => ?_, fun y c z _ => (nomatch (show false = true from z)), fun _ => hd, ?_, .inr ⟨rfl, rfl⟩, fun b hb => ⟨fun z => ?_, fun x c e => (hfp b hb).2.2.2.2.1 x c (cm e)⟩,
      e0.bs, e0.bsz, fun b o e hb => ?_, fun b hb z => ?_, e0.funs, e0.frf⟩,
    hos, hb, Un.kept hk, ⟨_, hns, fun i y v e1 e2 e3 => ?_⟩, fun y c e => ?_, I.hok.fresh hL, fun y c e => I.freeC y c (cm e), fun p hp => ?_, I.hok.kept hk, ?_⟩
  · have hy : scope.names.lookup y = some .cell ∨ scope.names.lookup y = some .free := hy
    rcases hy with hy | hy
    · exact absurd rfl (S.cell _ (PySem.mem_of_lookup hy))
    · exact look hy
  · show A.frames.map (_ :: ·) = _
    rw [hfr]
    rfl
  · have h1 := old hb
    have z : b = L := z
    rw [z] at h1
    exact Nat.lt_irrefl _ (Nat.lt_of_lt_of_le h1 hL)
  · have hb : b ∈ fp := hb
    rcases (hfp b hb).2.2.2.1 with z | z
    · exact I.ok.noex b o e z
    · exact Nat.lt_irrefl _ (Nat.lt_of_lt_of_le (Heap.lt_size e) (Nat.le_trans I.ok.bsz z))
  · rcases List.mem_cons.mp (I.stkSub b z) with e | e
    · exact (hfp b hb).2.1 e
    · exact (hfp b hb).2.2.1 e
  · have e3 : Vis scope y := e3
    have e1 : X.N[i]? = some y := e1
    have e2 : (L2.wipe σ (own.map (·.2)))[i]? = some (some v) := e2
    have notown : ∀ j, (y, j) ∈ own → X.N[j]? = some y → False := fun j hj hNj => by
      have hij : i = j := nodup_ix hN e1 hNj
      subst hij
      exact wipe_none (List.mem_map_of_mem (f := (·.2)) hj) e2
    rcases e3 with k | k | k
    · exfalso
      rcases S.own _ (PySem.mem_of_lookup k) rfl with z | ⟨j, z1, z2⟩
      · have z : y = (".0" : Str) := z
        exact S.nd (by rw [← z]; exact List.mem_of_getElem? e1)
      · exact notown j z1 z2
    · exact absurd rfl (S.cell _ (PySem.mem_of_lookup k))
    · obtain ⟨m, hn, hl⟩ := I.loc
      have hvis : Vis X.env.scope y := (S.free _ (PySem.mem_of_lookup k) rfl).elim (fun k => .inr (.inl k)) (fun k => .inr (.inr k))
      have hout : i ∉ own.map (·.2) := fun z => wipe_none z e2
      rw [L2.wipe_out hout] at e2
      obtain ⟨w', r, q⟩ := hl i y v e1 e2 hvis
      obtain ⟨c2, h2⟩ := look k
      refine ⟨w', r, .inr ⟨.inr k, c2, h2, ?_⟩⟩
      have c1 := cm h2
      rcases q with ⟨k', _⟩ | ⟨_, c3, e', z⟩
      · have k' : X.env.scope.names.lookup y = some .local := k'
        rcases S.free _ (PySem.mem_of_lookup k) rfl with k2 | k2 <;> rw [show X.env.scope.names.lookup y = _ from k2] at k' <;> cases k'
      · have e9 : c3 = c2 := by
          rw [c1] at e'
          exact (Option.some.inj e').symm
        rw [← e9]
        obtain ⟨o, ho, hd2⟩ := z
        exact ⟨o, hk _ _ ho, hd2⟩
  · obtain ⟨v, o, ho, hd2⟩ := I.cell y c (cm e)
    exact ⟨v, o, hk _ _ ho, hd2⟩
  · have hp : p ∈ [(a, go)] ++ [] := hp
    rw [List.append_nil] at hp
    rw [List.mem_singleton.mp hp]
    exact ⟨hga, I.hok.fresh ha, haL, nof ha, hgc⟩
  · show (L2.wipe σ _).length = X.N.length
    rw [L2.wipe_length]
    exact I.len
end
end G

namespace G
open PySem L2 PySem.Spec PyProof.Rows GenW
/-! ### the promise of a generator expression -/
def GPub (P : Program) (w : World) (outer : List PySem.Env) (H : Hp) (sc : Shared) (ex : List Addr) (C : Con) (Yl : V → Hp → Prop) (a : Addr) (g : Nat) : Protocol := fun n _ v s kap => s.os = sc.os ∧ AllBare s.gens ∧ s.heap.NoLimit ∧ s.heap.IsGen a g ∧
  ∃ ys x cp, (∃ H', Un (frs outer) ex H H' sc.heap s.heap ∧ HOk P w H' s.heap ∧ (∀ S ∈ C.as, H' S = none) ∧ Yl x H') ∧ n + 1 + ys.length = sizeLine ∧ RelV x v ∧ C.item ys.length x ∧ C.inv ys cp ∧ (∀ p ∈ cp, s.heap.get? p.1 = some p.2) ∧ ∀ s' cp', Slp C s s' → C.inv (ys ++ [x]) cp' → (∀ p ∈ cp', s'.heap.get? p.1 = some p.2) → kap (.send .none) s'
def GFin (P : Program) (w : World) (outer : List PySem.Env) (H : Hp) (sc : Shared) (ex : List Addr) (C : Con) (Q : List V → Hp → Prop) (n : Nat) (s1 : Shared) : Prop :=
  ∃ H' ys cp, s1.os = sc.os ∧ AllBare s1.gens ∧ Un (frs outer) ex H H' sc.heap s1.heap ∧ HOk P w H' s1.heap ∧ (∀ S ∈ C.as, H' S = none) ∧ C.inv ys cp ∧ (∀ p ∈ cp, s1.heap.get? p.1 = some p.2) ∧ n + ys.length = sizeLine ∧ Q ys H'
def GEnd' (P : Program) (w : World) (outer : List PySem.Env) (H : Hp) (sc : Shared) (ex : List Addr) (C : Con) (Q : List V → Hp → Prop) : GenEnd := fun n s₀ r s1 =>
  ((r = .ok (.ret .none) ∨ r = .ok .next) ∧ GFin P w outer H sc ex C Q n s1) ∨ ∃ e, r = .error e ∧ False
/-- a generator that has not begun: It tells its items, Q its end -/
def GMk (P : Program) (w : World) (k : Nat) (outer : List PySem.Env) (H : Hp) (sc : Shared) (ex : List Addr) (stp : Bool) (Yl : V → Hp → Prop) (It : Nat → V → Prop) (Q : List V → Hp → Prop) (u : Value) (s' : Shared) : Prop :=
  ∃ (a : Addr) (g : Nat) (c : Code), u = .ref a ∧ sc.heap.objs.size ≤ a ∧ a < s'.heap.objs.size ∧ s'.heap.IsGen a g ∧ s'.gens[g]? = some (.fresh c) ∧ s'.os = sc.os ∧ AllBare s'.gens ∧ s'.heap.NoLimit ∧ (∀ b o, sc.heap.get? b = some o → s'.heap.get? b = some o) ∧
    ∀ (A : Around) (C : Con) (s2 : Shared) (cp : List (Addr × Obj)), Room k A → A.frames = some outer → C.Ok → (stp = true → ∀ ys cp, C.inv (ys ++ [.bl true]) cp → False) → (∀ j x, It j x → C.item j x) → (∀ S ∈ C.as, s'.heap.objs.size ≤ S) → (∀ b o, s'.heap.get? b = some o → s2.heap.get? b = some o) → C.inv [] cp → (∀ p ∈ cp, s2.heap.get? p.1 = some p.2) → s2.os = sc.os → AllBare s2.gens →
      Seg (model P w) A (GEnd' P w outer H sc ex C Q) (GPub P w outer H sc ex C Yl a g) sizeLine s2 c ((model P w).den c) [] s2
/-- the table of the frame's code object, for generator expressions -/
def Lg (X : Cx) (g : GC) : Prop := ∃ c P, LamX.TabB X.base X.mg c P ∧ X.env.code = .ref c ∧ (P, X.env.qual ++ "<genexpr>") ∈ g.T ∧ ∀ p ∈ g.T, p.1 = P → p.2 = X.env.qual ++ "<genexpr>"
abbrev Th := Bool → Store → R (List D)
/-- an expression whose value is a generator -/
structure PGx (X : Cx) (g : GC) (W : WX) (k : Nat) (e : Expr) (f : Env → Store → R Th) : Prop where
  run : ∀ (pins : List (Addr × Obj)) (s : Shared) (σ : L2.St) (H : Hp) (Q : Value → Shared → Prop) (μ : Mp) (env : Env) (st : Store) (stp : Bool), Inv X pins σ H s → RelS g μ H st → RelE g μ H env σ →
    Post g W σ μ H (f env st) (fun μ1 H1 th st1 => match th stp st1 with
      | .ok outs st2 => ∀ u sc ex s', Inv X pins σ H1 sc → ExOk X pins ex → GMk X.prog X.w k X.stack H1 sc ex stp (fun x H' => ∃ μ', Le μ1 H1 μ' H' ∧ (stp = true → x = .bl true → RelS g μ' H' st2)) (fun j x => ∃ d μ H, outs[j]? = some d ∧ Rep g μ H d x) (fun ys H' => ∃ μ', Le μ1 H1 μ' H' ∧ RelS g μ' H' st2 ∧ Reps g μ' H' outs ys) u s' → Q u s'
      | _ => False) →
    wpAny (model X.prog X.w) X.A (eval e X.env) Q X.xe s
/-- what a generator expression will hand out -/
def dGx (fi : DI) (gt : DG) (ft : DT) (fe : DE) (vs : List Nat) : Env → Store → R Th := fun env st => (fi env st).bind fun p st => .ok (fun stp st' => if p.1.length ≤ 16777216 then (if stp = true then lcS true gt ft fe p.2 p.1 (wipeE env vs) st' else lcD gt ft fe p.2 p.1 (wipeE env vs) st') else .bad) st
section
variable {X : Cx} {g : GC} {W : WX} {k : Nat} {pos : Pos}
theorem Ok.gx {A : Around} {s : Shared} {H : Hp} {env : PySem.Env} {fp : List Addr} {pn : List (Addr × Obj)} {j : Nat} (O : Ok X g W k) (hr : Room (j + 1) A) : Ok (gxCx X A s H env fp pn) g W0 j := ⟨O.hK, LamX.takes0, PassesOwn.never, rfl, O.nd, hr.deeper _⟩
theorem pg_gx {elt tg iter : Expr} {ifs : List Expr} {scope : Scope} {own : List (Str × Nat)} {fi : DI} {is : List Nat} {gt : DG} {ft : DT} {fe : DE} {j kk : Nat} (O : Ok X g W kk) (M : Lg X g) (hi : PID X g W tg iter fi) (S : GxS X.N X.env.scope scope own)
    (hg : ∀ (A : Around) (s : Shared) (H : Hp) (L : Addr) (cd : Value) (fp : List Addr) (pn : List (Addr × Obj)), Ok (gxCx X A s H (gxEnv X scope L cd) fp pn) g W0 j → PGD (gxCx X A s H (gxEnv X scope L cd) fp pn) g tg is gt)
    (ht : ∀ (A : Around) (s : Shared) (H : Hp) (L : Addr) (cd : Value) (fp : List Addr) (pn : List (Addr × Obj)), Ok (gxCx X A s H (gxEnv X scope L cd) fp pn) g W0 j → PTsD (gxCx X A s H (gxEnv X scope L cd) fp pn) g W0 ifs ft)
    (he : ∀ (A : Around) (s : Shared) (H : Hp) (L : Addr) (cd : Value) (fp : List Addr) (pn : List (Addr × Obj)), Ok (gxCx X A s H (gxEnv X scope L cd) fp pn) g W0 j → PD (gxCx X A s H (gxEnv X scope L cd) fp pn) g W0 elt fe)
    (hs : ∀ v, genFold iter X.env v = pure v := by intro _; rfl) (hv : ∀ i ∈ is, i ∈ own.map (·.2) := by decide) : PGx X g W (j + 1) (.GeneratorExp elt [⟨tg, iter, ifs, 0⟩] scope pos) (dGx fi gt ft fe (own.map (·.2))) := by
  refine ⟨fun pins s σ H Q μ env st stp I S0 E0 h => ?_⟩
  obtain ⟨c, P, TB, hcode, hmT, hu⟩ := M
  have hfree : ∀ y ∈ scope.names, y.2 = .free → ∃ c, X.env.cells.lookup y.1 = some c := fun y hy e => by
    rcases S.free y hy e with k | k
    · exact I.ok.has _ (.inl k)
    · exact I.ok.has _ (.inr k)
  refine wpAny_GeneratorExp_make S.co (closure_ok hfree) S.cell S.dot S.kind (by have := O.room.dp; omega) ?_ hs
  have hq : tDI g W fi σ H (fun J H1 => ∃ (μ1 : Mp) (st1 : Store) (p : List D × Gd), Le μ H μ1 H1 ∧ RelS g μ1 H1 st1 ∧ RelE g μ1 H1 env σ ∧ ItOk g J p.1 p.2 μ1 H1 ∧ Post g W σ μ1 H1 (R.ok (fun stp st' => if p.1.length ≤ 16777216 then (if stp = true then lcS true gt ft fe p.2 p.1 (wipeE env (own.map (·.2))) st' else lcD gt ft fe p.2 p.1 (wipeE env (own.map (·.2))) st') else R.bad) st1 : R Th) (fun μ1 H1 th st1 => match th stp st1 with
      | .ok outs st2 => ∀ u sc ex s', Inv X pins σ H1 sc → ExOk X pins ex → GMk X.prog X.w (j + 1) X.stack H1 sc ex stp (fun x H' => ∃ μ', Le μ1 H1 μ' H' ∧ (stp = true → x = .bl true → RelS g μ' H' st2)) (fun j x => ∃ d μ H, outs[j]? = some d ∧ Rep g μ H d x) (fun ys H' => ∃ μ', Le μ1 H1 μ' H' ∧ RelS g μ' H' st2 ∧ Reps g μ' H' outs ys) u s' → Q u s'
      | _ => False)) := bindI S0 E0 h fun μ1 H1 p st1 J L1 S1 E1 hJ h1 => ⟨μ1, st1, p, L1, S1, E1, hJ, h1⟩
  refine thn (hi.run pins s σ H _ I hq) fun xv s1 h1 => thn h1 fun itv s2 h2 => ?_
  obtain ⟨it, fp, tn, J, H1, rfl, I2, T, tn0, hf, μ1, st1, p, L1, S1, E1, hJ, h1⟩ := h2
  refine ⟨I2.nolimit, ?_⟩
  obtain ⟨ps, hP, htr, ha⟩ := S1.tabs _ hmT
  have hP' : s2.heap.get? P = some { cls := .none, data := .fields ps } := I2.hok P _ hP
  have cd : PySem.W.CodeHd s2.heap c P := TB.code.keeps I2.bk
  obtain ⟨bm, ob, e1, e2, e3, e4, e5, e6, e7, e8⟩ := TB.bm
  -- behind the code object
  have cont : ∀ (code : Value) (s4 : Shared) (H2 : Hp), Inv X pins σ H2 s4 → LamX.ExtN H1 H2 → LamX.Tabs g.T H2 → tn 0 s4.heap → (∀ b ∈ fp, FpOk X pins H2 b) →
      wpAny (model X.prog X.w) X.A (builtinsFor X.env.globals X.env.builtins) (fun bi s₄ =>
        ∀ h', h'.Ns s₄.heap.objs.size (fun y => if y = ".0" then some (.ref it) else none) → Heap.SameBut s₄.heap.objs.size (s₄.heap.push { cls := .type "frame", data := .dict #[] }) h' →
          Q (.ref h'.objs.size) { s₄ with
            gens := s₄.gens.push (.fresh (.compStart (.GeneratorExp elt [⟨tg, iter, ifs, 0⟩] scope pos) 0 (.ref it) .none (genEnv scope (cloFrom X.env.cells scope.names []) s₄.heap.objs.size code bi X.env))),
            toks := s₄.toks + 1 + 1 + 1,
            heap := h'.push { cls := .type "generator", data := .fields #[.int s₄.gens.size 0, .str "<genexpr>" (s₄.toks + 1), .str (X.env.qual ++ "<genexpr>") (s₄.toks + 1 + 1)] } }) X.xe s4 := by
    intro code s4 H2 I4 eN T2 tn4 hf4
    obtain ⟨L2', S2⟩ := ext_le S1 eN T2
    refine wpAny_builtinsFor (m := X.mg) (by rw [I4.ok.glob]; exact I4.mod.glob.keeps I4.bk) e1 e2 (I4.bk _ _ e5) e6 e7 e8 ?_
    intro h' hn' hs'
    have h1 := h1 _ _ L2' S2
    have h1 : (match (if p.1.length ≤ 16777216 then (if stp = true then lcS true gt ft fe p.2 p.1 (wipeE env (own.map (·.2))) st1 else lcD gt ft fe p.2 p.1 (wipeE env (own.map (·.2))) st1) else R.bad) with
      | .ok outs st2 => ∀ u sc ex s', Inv X pins σ H2 sc → ExOk X pins ex → GMk X.prog X.w (j + 1) X.stack H2 sc ex stp (fun x H' => ∃ μ', Le μ1 H2 μ' H' ∧ (stp = true → x = .bl true → RelS g μ' H' st2)) (fun j x => ∃ d μ H, outs[j]? = some d ∧ Rep g μ H d x) (fun ys H' => ∃ μ', Le μ1 H2 μ' H' ∧ RelS g μ' H' st2 ∧ Reps g μ' H' outs ys) u s' → Q u s'
      | _ => False) := h1
    split at h1
    · rename_i outs st2 hth
      split at hth
      · rename_i hl
        have hth : lcS stp gt ft fe p.2 p.1 (wipeE env (own.map (·.2))) st1 = .ok outs st2 := by
          cases stp with
          | true => exact hth
          | false => rw [lcS_false]; exact hth
        refine h1 _ s4 fp _ I4 (fun b hb => ⟨(hf4 b hb).2.2.2.1, (hf4 b hb).2.1, (hf4 b hb).2.2.2.2.1, (hf4 b hb).2.2.2.2.2⟩) ?_
        have hsz : h'.objs.size = s4.heap.objs.size + 1 := by rw [hs'.1, Heap.size_push]
        have keep' : ∀ b o, s4.heap.get? b = some o → h'.get? b = some o := fun b o e => hs'.extBut b o (Nat.ne_of_lt (Heap.lt_size e)) (Heap.get?_push_of_some _ e)
        have main : ∀ (go : Obj) (nm qn : Value), go.cls = .type "generator" → go.data = .fields #[.int s4.gens.size 0, nm, qn] → go.slots = #[] → (∀ h : Heap, (h.push go).get? h.objs.size = some go) →
            GMk X.prog X.w (j + 1) X.stack H2 s4 fp stp (fun x H' => ∃ μ', Le μ1 H2 μ' H' ∧ (stp = true → x = .bl true → RelS g μ' H' st2)) (fun j x => ∃ d μ H, outs[j]? = some d ∧ Rep g μ H d x) (fun ys H' => ∃ μ', Le μ1 H2 μ' H' ∧ RelS g μ' H' st2 ∧ Reps g μ' H' outs ys) (.ref h'.objs.size)
              { s4 with gens := s4.gens.push (.fresh (.compStart (.GeneratorExp elt [⟨tg, iter, ifs, 0⟩] scope pos) 0 (.ref it) .none (gxEnv X scope s4.heap.objs.size code))), toks := s4.toks + 1 + 1 + 1, heap := h'.push go } := by
          intro go nm qn g1 g2 g3 g4
          have hgen : ∀ h : Heap, h.get? h'.objs.size = some go → h.IsGen h'.objs.size s4.gens.size := fun h e => ⟨go, nm, qn, e, g1, g2, g3⟩
          have hgd : ∀ v, go.data ≠ .cell v := fun v q => by rw [g2] at q; cases q
          have kp1 : ∀ b o, s4.heap.get? b = some o → (h'.push go).get? b = some o := fun b o e => Heap.get?_push_of_some _ (keep' b o e)
          refine ⟨h'.objs.size, s4.gens.size, _, rfl, by omega, by show _ < (h'.push go).objs.size; rw [Heap.size_push]; omega, hgen _ (g4 h'), Array.getElem?_push_size .., rfl, AllBare.push I4.bare rfl, I4.nolimit.keeps kp1, kp1, ?_⟩
          intro A C s2 cp hrw hfr CO hstp hit hSz hk2 hc0 hat hos hba
          have hk2 : ∀ b o, (h'.push go).get? b = some o → s2.heap.get? b = some o := hk2
          have kp2 : ∀ b o, s4.heap.get? b = some o → s2.heap.get? b = some o := fun b o e => hk2 b o (kp1 b o e)
          have hSz : ∀ S ∈ C.as, s4.heap.objs.size + 2 ≤ S := fun S hS => by
            have z : (h'.push go).objs.size ≤ S := hSz S hS
            rw [Heap.size_push, hsz] at z
            exact z
          have J0 : Inv (gxCx X A s4 H2 (gxEnv X scope s4.heap.objs.size code) fp [(h'.objs.size, go)]) [] (L2.wipe σ (own.map (·.2))) H2 s2 :=
            gx_inv I4 S O.nd hfr hrw.hd (Nat.le_refl _) (by omega) (by rw [hsz]; exact Nat.succ_ne_self _) kp2 hos hba ((hn'.push _).keeps hk2) (hk2 _ _ (g4 h')) hgd hf4 fun b hb => (T.obj _ _ tn4 b hb).imp fun o e => e.1
          have young : ∀ {S}, S ∈ C.as → H2 S = none ∧ S ≠ s4.heap.objs.size ∧ S ∉ frs X.stack ∧ s4.heap.objs.size ≤ S ∧ S ≠ h'.objs.size := fun {S} hS => by
            have z := hSz S hS
            refine ⟨I4.hok.fresh (by omega), fun e => by rw [e] at z; exact absurd z (by omega), fun e => ?_, by omega, fun e => by rw [e, hsz] at z; exact absurd z (by omega)⟩
            rcases List.mem_cons.mp (I4.stkSub _ e) with e | e
            · have h1 := I4.lt
              rw [← e] at h1
              have z2 : s4.heap.objs.size ≤ S := by omega
              exact Nat.lt_irrefl _ (Nat.lt_of_lt_of_le h1 z2)
            · exact I4.nofs (by omega) e
          have J1 : Inv (gxCx X A s4 H2 (gxEnv X scope s4.heap.objs.size code) fp [(h'.objs.size, go)]) cp (L2.wipe σ (own.map (·.2))) H2 s2 := J0.pins_of fun p hp => by
            obtain ⟨y1, y2, y3, _, _⟩ := young (mem_as CO hc0 hp)
            exact ⟨hat p hp, y1, y2, y3, CO.nc _ _ hc0 p hp⟩
          have hAp : Ap (gxCx X A s4 H2 (gxEnv X scope s4.heap.objs.size code) fp [(h'.objs.size, go)]) C := fun S hS => by
            obtain ⟨y1, y2, y3, y4, y5⟩ := young hS
            refine ⟨y4, y2, fun x c e z => ?_, fun p hp z => ?_⟩
            · obtain ⟨v, ho⟩ := J0.cell x c e
              obtain ⟨o, q1, _⟩ := id ho
              rcases cloFrom_mem (PySem.mem_of_lookup (show (cloFrom X.env.cells scope.names []).lookup x = some c from e)) with hm | ⟨h1, h2⟩
              · cases hm
              · obtain ⟨c1, hc1⟩ := hfree _ h1 rfl
                have hc1 : X.env.cells.lookup x = some c1 := hc1
                have e2 : c = c1 := by rw [h2, hc1] <;> rfl
                obtain ⟨v', o', q2, _⟩ := I4.cell x c1 hc1
                have := Heap.lt_size q2
                rw [← e2, z] at this
                exact absurd (Nat.lt_of_lt_of_le this y4) (Nat.lt_irrefl _)
            · have hp : p ∈ [(h'.objs.size, go)] := hp
              rw [List.mem_singleton.mp hp] at z
              exact y5 z.symm
          have hfpC : ∀ b ∈ fp, b ∉ C.as := fun b hb hS => by
            obtain ⟨o, e, _⟩ := T.obj _ _ tn4 b hb
            have := Heap.lt_size e
            have z := hSz b hS
            have z2 : s4.heap.objs.size ≤ b := by omega
            exact Nat.lt_irrefl _ (Nat.lt_of_lt_of_le this z2)
          refine seg_imp (R := GxR (gxCx X A s4 H2 (gxEnv X scope s4.heap.objs.size code) fp [(h'.objs.size, go)]) g C μ1 H2 outs st2) (Y := GxY (gxCx X A s4 H2 (gxEnv X scope s4.heap.objs.size code) fp [(h'.objs.size, go)]) g C μ1 H2 stp st2) (fun n s₀ r s1 hR => ?_) (fun n s₀ v s1 kap kap' hkk hY => ?_) sizeLine ?_
          · obtain ⟨er, ys, cp', σ', H', μ', hn, hc, I', L', S', r'⟩ := hR
            exact .inl ⟨.inr er, H', ys, cp', I'.os, I'.bare, I'.base, I'.hok, fun S hS => (of_as CO hc hS).elim fun o ho => (I'.pin _ (List.mem_append_right _ ho)).2.1, hc, fun p hp => (I'.pin p (List.mem_append_right _ hp)).1, hn, μ', L', S', r'⟩
          · obtain ⟨ys, x, cp', ip, σ', H', hn, rv, hitem, hc, I', hyl', hk⟩ := hY
            exact ⟨I'.os, I'.bare, I'.nolimit, hgen _ (I'.pin (h'.objs.size, go) (List.mem_append_left _ (List.mem_singleton.mpr rfl))).1, ys, x, cp', ⟨H', I'.base, I'.hok, fun S hS => (of_as CO hc hS).elim fun o ho => (I'.pin _ (List.mem_append_right _ (List.mem_append_left _ ho))).2.1, hyl'⟩, hn, rv, hitem, hc, fun p hp => (I'.pin p (List.mem_append_right _ (List.mem_append_left _ hp))).1, fun s' cq z hc' hat' => hkk _ _ (hk s' cq z hc' hat')⟩
          · have hok := O.gx (s := s4) (H := H2) (env := gxEnv X scope s4.heap.objs.size code) (fp := fp) (pn := [(h'.objs.size, go)]) hrw
            have tn2 : tn 0 s2.heap := T.keep _ _ _ tn4 fun b _ o e => kp2 b o e
            refine gx_start T tn2 (gx_loop (X := gxCx X A s4 H2 (gxEnv X scope s4.heap.objs.size code) fp [(h'.objs.size, go)]) (g := g) (C := C) (stp := stp) hstp over_comp (fun _ _ z => z) rfl S.co CO hAp hfpC T (hg A s4 H2 _ code fp _ hok) (ht A s4 H2 _ code fp _ hok) (he A s4 H2 _ code fp _ hok) hv hl (fun j d x μ H e r => hit j x ⟨d, μ, H, e, r⟩)
              p.1.length 0 sizeLine s2 s2 [] [] cp _ H2 μ1 st1 (by simp) (Nat.zero_le _) (by simp) (by simp) hc0 J1 (fun b hb => ?_) tn2 Le.refl S2 ((E1.le L2').wipe _) (hJ.le L2'.toLw) rfl ⟨outs, by rw [List.drop_zero]; exact hth, rfl⟩)
            obtain ⟨f1, f2, f3, f4, f5, f6⟩ := hf4 b hb
            obtain ⟨o, eo, _⟩ := T.obj _ _ tn4 b hb
            have hlt := Heap.lt_size eo
            refine ⟨f1, fun z => ?_, fun z => ?_, .inl hb, fun x c e z => ?_, fun q hq z => ?_⟩
            · have z : b = s4.heap.objs.size := z
              rw [z] at hlt
              exact Nat.lt_irrefl _ hlt
            · rcases List.mem_cons.mp (I4.stkSub _ z) with e | e
              · exact f2 e
              · exact f3 e
            · rcases cloFrom_mem (PySem.mem_of_lookup (show (cloFrom X.env.cells scope.names []).lookup x = some c from e)) with hm | ⟨h1, h2⟩
              · cases hm
              · obtain ⟨c1, hc1⟩ := hfree _ h1 rfl
                have hc1 : X.env.cells.lookup x = some c1 := hc1
                have e2 : c = c1 := by rw [h2, hc1] <;> rfl
                exact f5 x c1 hc1 (by rw [← e2]; exact z)
            · have hq : q ∈ [(h'.objs.size, go)] ++ cp := hq
              rcases List.mem_append.mp hq with hq | hq
              · rw [List.mem_singleton.mp hq] at z
                have z : h'.objs.size = b := z
                rw [← z, hsz] at hlt
                exact absurd hlt (Nat.not_lt.mpr (Nat.le_succ _))
              · exact hfpC b hb (by rw [← z]; exact mem_as CO hc0 hq)
        exact main _ _ _ rfl rfl rfl fun h => Heap.get?_push_size _ rfl
      · cases hth
    · exact h1.elim
  cases hc : codeAmong pos ps.toList with
  | none =>
    refine wpAny_genexprCodeX hcode (cd.code hP' htr) (cd.tab hP') hc fun c' h3 tk hx hge hlt hco' hrec htab' _ => ?_
    obtain ⟨c2, oc, vs, t, e9, hoc, hd, hv9⟩ := hrec
    cases e9
    have nC : H1 c' = none := I2.hok.fresh hge
    have I3 := LamX.inv_table (t' := tk) (more := #[rawInt pos.line, rawInt pos.col, .ref c']) (h' := h3) I2 hP (fun b o hb e => hx b o hb e) htab'.2 hge ⟨oc, vs, t, hoc, hd, hv9⟩
    have hE : LamX.ExtN H1 (upd (upd H1 P (.tbl (ps ++ #[rawInt pos.line, rawInt pos.col, .ref c']))) c' (LamX.CodeO c' (X.env.qual ++ "<genexpr>"))) := fun b o e n => by
      rw [upd_ne (ne_of_none e nC), upd_ne (fun z => n ps (Option.some.inj (e.symm.trans (by rw [z]; exact hP))))]
      exact e
    have eL : (ps ++ #[rawInt pos.line, rawInt pos.col, .ref c']).toList = ps.toList ++ [rawInt pos.line, rawInt pos.col, .ref c'] := by simp
    have nfp : ∀ b ∈ fp, b ≠ P ∧ b ≠ c' := fun b hb => by
      obtain ⟨o, eo, _⟩ := T.obj _ _ tn0 b hb
      refine ⟨fun z => ?_, fun z => ?_⟩
      · have := (hf b hb).1
        rw [z, hP] at this
        cases this
      · have := Heap.lt_size eo
        rw [z] at this
        exact Nat.lt_irrefl _ (Nat.lt_of_lt_of_le this hge)
    refine cont _ _ _ I3 hE (fun p hp => ?_) (T.keep _ _ _ tn0 fun b hb o e => hx b o (nfp b hb).1 e) fun b hb => ⟨by rw [upd_ne (nfp b hb).2, upd_ne (nfp b hb).1]; exact (hf b hb).1, (hf b hb).2⟩
    by_cases hb : p.1 = P
    · rw [hu p hp hb, hb]
      refine ⟨_, by rw [upd_ne (ne_of_none hP nC), upd_same], by rw [eL]; exact PySem.TriplesOk_snoc _ _ _ _ htr, fun p' cv hcv => ?_⟩
      rw [eL] at hcv
      rcases LamX.among_app _ htr hcv with z | z
      · obtain ⟨c0, q1, q2⟩ := ha p' cv z
        exact ⟨c0, q1, hE _ _ q2 LamX.codeO_ne⟩
      · exact ⟨c', z, upd_same⟩
    · obtain ⟨ps', a1, a2, a3⟩ := S1.tabs p hp
      refine ⟨ps', by rw [upd_ne (ne_of_none a1 nC), upd_ne hb]; exact a1, a2, fun p' cv hcv => ?_⟩
      obtain ⟨c0, q1, q2⟩ := a3 p' cv hcv
      exact ⟨c0, q1, hE _ _ q2 LamX.codeO_ne⟩
  | some cv =>
    refine wpAny_genexprCode_hit hcode (cd.code hP' htr) hc ?_
    exact cont cv s2 H1 I2 (LamX.ExtN.refl H1) S1.tabs tn0 hf
end
end G

namespace G
open PySem L2 PySem.Spec PyProof.Rows GenW
/-! ### a generator's items into a list -/
def lcon (S : Addr) : Con := ⟨[S], fun ys cp => ∃ acc c, cp = [(S, lstObj acc c)] ∧ Vals ys acc.toList, fun _ _ => True⟩
theorem lcon_ok (S : Addr) : (lcon S).Ok := ⟨fun ys cp ⟨acc, c, e, _⟩ => by rw [e]; rfl, fun ys cp ⟨acc, c, e, _⟩ p hp v q => by
  rw [e] at hp
  rw [List.mem_singleton.mp hp] at q
  cases q⟩
theorem slp_push {S : Addr} {v : Value} {s : Shared} {acc : Array Value} {c : Nat} {gens : Array GenState} (hS : s.heap.get? S = some (lstObj acc c)) (hG : AllBare gens) :
    Slp (lcon S) s { s with gens := gens, heap := s.heap.update S (Obj.mapSeq (·.push v)) } ∧ ∃ c', (s.heap.update S (Obj.mapSeq (·.push v))).get? S = some (lstObj (acc.push v) c') :=
  ⟨⟨rfl, hG, fun b o hb e => (Heap.get?_update_other _ _ (fun z => hb (by rw [← z]; exact List.mem_singleton.mpr rfl))).trans e⟩, _, Heap.get?_update_self _ hS rfl⟩
theorem drainG {P : Program} {w : World} {outer : List PySem.Env} {H : Hp} {sc : Shared} {ex : List Addr} {Q : List V → Hp → Prop} {Yl : V → Hp → Prop} {A : Around} {R : Result → Shared → Prop} {S a : Addr} {g : Nat} {res : Value}
    (hh : A.handled = none) (hd : A.depth < recursionLimit) (hSa : S ≠ a) (hSc : S ≠ cStatics)
    (hend : ∀ s' acc c H' ys, s'.heap.get? S = some (lstObj acc c) → Vals ys acc.toList → ys.length ≤ sizeLine → s'.os = sc.os → AllBare s'.gens → Un (frs outer) ex H H' sc.heap s'.heap → HOk P w H' s'.heap → H' S = none → Q ys H' → R (.ok (.ret res)) s') :
    ∀ (m : Nat) (s : Shared), s.heap.IsGen a g → s.heap.NoLimit →
      (∃ gs, s.gens[g]? = some gs ∧ gs.Goes (model P w) A.in1.in1 (GEnd' P w outer H sc ex (lcon S) Q) (GPub P w outer H sc ex (lcon S) Yl a g) m (.send .none) (s.setGen g .running)) →
      codeAny (model P w) A (.builtin "list.extend.loop" ⟨[.ref S, .ref a, res], []⟩) R s := by
  have goes : ∀ {gs : GenState} {B : Around} {n : Nat} {r : Resume} {s : Shared}, gs.Goes (model P w) B (GEnd' P w outer H sc ex (lcon S) Q) (GPub P w outer H sc ex (lcon S) Yl a g) n r s →
      gs.Goes (model P w) B (fun n s₀ r s1 => ((r = .ok (.ret .none) ∨ r = .ok .next) ∧ GFin P w outer H sc ex (lcon S) Q n s1) ∨ ∃ e, r = .error e ∧ False) (GPub P w outer H sc ex (lcon S) Yl a g) n r s := fun h => h
  have ends : ∀ {n : Nat} {s1 : Shared}, GFin P w outer H sc ex (lcon S) Q n s1 → ∀ h', (∀ b o, s1.heap.get? b = some o → h'.get? b = some o) → R (.ok (.ret res)) { s1.setGen g .finished with heap := h' } := fun {n s1} hp h' hk => by
    obtain ⟨H', ys, cp, os1, hb1, un, hok, hSn, ⟨acc, c, ecp, hv⟩, hpin, hn, hQ⟩ := hp
    subst ecp
    exact hend _ acc c H' ys (hk _ _ (hpin _ List.mem_cons_self)) hv (by omega) os1 (allBare_setGen hb1 rfl) (un.trans (Un.kept hk)) (hok.kept hk) (hSn S List.mem_cons_self) hQ
  intro m
  induction m with
  | zero =>
    intro s hg hl ⟨gs, hgs, hgo⟩
    refine codeAny_builtin F.entry_extend_loop ?_
    rw [Around.under_plainId F.plain_extend_loop _]
    show wpAny _ A.in1 (pyNext (.ref a) >>= _) _ _ s
    refine wpAny_bind (next_genG (A := A.in1) hh hl hd hg hgs (goes hgo) (fun v s₁ gs' hbare hv => ?_) (fun s₁ hp h' hk => ?_) fun e s₁ he => he.elim)
    · obtain ⟨_, hb1, _, _, ys, x, cp, _, hn, rv, _, ⟨acc, c, ecp, hv⟩, hpin, hk⟩ := hv
      subst ecp
      obtain ⟨z1, c', z2⟩ := slp_push (v := v) (hpin _ List.mem_cons_self) hb1
      exact False.elim (hk _ [(S, lstObj (acc.push v) c')] z1 ⟨_, _, rfl, by rw [Array.toList_push]; exact hv.append (.cons rv .nil)⟩ fun p hp => by rw [List.mem_singleton.mp hp]; exact z2)
    · exact wpAny_pure (ends hp h' hk)
  | succ m ih =>
    intro s hg hl ⟨gs, hgs, hgo⟩
    have hgl : g < s.gens.size := (Array.getElem?_eq_some_iff.mp hgs).1
    refine codeAny_builtin F.entry_extend_loop ?_
    rw [Around.under_plainId F.plain_extend_loop _]
    show wpAny _ A.in1 (pyNext (.ref a) >>= _) _ _ s
    refine wpAny_bind (wpAny_gsz (n := g + 1) hgl (next_genG (A := A.in1) hh hl hd hg hgs (goes hgo) (fun v s₁ gs' hbare hv => ?_) (fun s₁ hp h' hk => ?_) fun e s₁ he => he.elim))
    · intro hsz
      obtain ⟨os1, hb1, hl1, hg1, ys, x, cp, _, hn, rv, _, ⟨acc, c, ecp, hv⟩, hpin, hk⟩ := hv
      subst ecp
      have hS1 : s₁.heap.get? S = some (lstObj acc c) := hpin _ List.mem_cons_self
      have hasz : acc.size = ys.length := by
        have := hv.length
        have e2 : acc.toList.length = acc.size := by simp
        omega
      have hasz' : acc.size < sizeLine := by omega
      show wpAny _ A.in1 (updateSeq S (·.push v) >>= _) _ _ _
      refine wpAny_bind ?_
      refine wpAny_updateSeq hS1 rfl (wpAny_pure ⟨plainId_quiet F.plain_extend_loop _, ?_⟩) (Nat.le_of_lt hasz') (by show (acc.push v).size ≤ sizeLine + 1; rw [Array.size_push]; omega)
      have keep3 : ∀ b o, b ≠ S → s₁.heap.get? b = some o → (s₁.heap.update S (Obj.mapSeq (·.push v))).get? b = some o := fun b o hbS e => (Heap.get?_update_other _ _ (Ne.symm hbS)).trans e
      have hsz1 : g < s₁.gens.size := by
        have q : (s₁.setGen g gs').gens.size = s₁.gens.size := setGen_size _ _ _
        have hsz' : g + 1 ≤ (s₁.setGen g gs').gens.size := hsz
        omega
      refine ih { s₁.setGen g gs' with heap := s₁.heap.update S (Obj.mapSeq (·.push v)) } ?_ ?_ ⟨gs', setGen_at hsz1, ?_⟩
      · obtain ⟨o, nm, qn, ho, r⟩ := hg1
        exact ⟨o, nm, qn, keep3 a o (Ne.symm hSa) ho, r⟩
      · obtain ⟨mc, hns, hnn⟩ := hl1
        exact ⟨mc, hns.at' fun o e => keep3 _ o (Ne.symm hSc) e, hnn⟩
      · obtain ⟨z1, c', z2⟩ := slp_push (v := v) hS1 (allBare_setGen (s := s₁.setGen g gs') (allBare_setGen hb1 hbare) (x := .running) (g := g) rfl)
        exact hk _ [(S, lstObj (acc.push v) c')] z1 ⟨_, _, rfl, by rw [Array.toList_push]; exact hv.append (.cons rv .nil)⟩ fun p hp => by rw [List.mem_singleton.mp hp]; exact z2
    · intro hsz
      exact wpAny_pure (ends hp h' hk)
/-- all of it -/
theorem collectG {P : Program} {w : World} {outer : List PySem.Env} {H : Hp} {sc s : Shared} {ex : List Addr} {It : Nat → V → Prop} {Q : List V → Hp → Prop} {Yl : V → Hp → Prop} {A : Around} {k : Nat} {u : Value} {Q' : List Value → Shared → Prop} {E : Value → Shared → Prop}
    (hr : Room (k + 3) A) (hfr : A.frames = some outer) (h : GMk P w k outer H sc ex false Yl It Q u s)
    (hQ : ∀ s' us H' ys, Vals ys us → ys.length ≤ sizeLine → s'.os = sc.os → AllBare s'.gens → Un (frs outer) ex H H' sc.heap s'.heap → HOk P w H' s'.heap → Q ys H' → Q' us s') :
    wpAny (model P w) A (collect u) Q' E s := by
  obtain ⟨a, g, c, rfl, ha1, ha2, hg, hgs, hos, hb, hl, hkp, wake⟩ := h
  have hSa : s.heap.objs.size ≠ a := Nat.ne_of_gt ha2
  have hcl : cStatics < s.heap.objs.size := let ⟨_, hn, _⟩ := hl; hn.lt
  have hSc : s.heap.objs.size ≠ cStatics := Nat.ne_of_gt hcl
  unfold collect
  refine wpAny_bind (wpAny_runValue (codeAny_builtin F.entry_proto_collect ?_))
  rw [Around.under_plainId F.plain_proto_collect _]
  show wpAny _ A.in1 (newList [] >>= fun l => again (.builtin "list.__iadd__" ⟨[l, .ref a], []⟩)) _ _ s
  refine wpAny_bind (wpAny_newObj_type ?_)
  refine wpAny_pure ⟨plainId_quiet F.plain_list_iadd _, codeAny_builtin F.entry_list_iadd ?_⟩
  rw [Around.under_plainId F.plain_list_iadd _]
  have k1 : ∀ b o, s.heap.get? b = some o → (s.heap.push { cls := .type "list", data := .seq ([] : List Value).toArray }).get? b = some o := fun b o e => Heap.get?_push_of_some _ e
  have hS : (s.heap.push { cls := .type "list", data := .seq ([] : List Value).toArray }).get? s.heap.objs.size = some { cls := .type "list", data := .seq ([] : List Value).toArray } := Heap.get?_push_size _ rfl
  have h1 : Builtin.List.listSameRef (.ref s.heap.objs.size) (.ref a) = false := by simp [Builtin.List.listSameRef, hSa]
  have h2 : (Value.type "generator" == Value.type "list") = false := by decide
  have h3 : (Value.type "generator" == Value.type "tuple") = false := by decide
  show wpAny _ A.in1 (Builtin.List.listExtendWith (.ref s.heap.objs.size) (.ref a) (.ref s.heap.objs.size)) _ _ _
  unfold Builtin.List.listExtendWith
  have gty : ∀ {h : Heap}, (∀ b o, s.heap.get? b = some o → h.get? b = some o) → h.IsGen a g := fun {h} q => hg.keeps q
  refine wpAny_bind (wpAny_typeOf (Heap.IsGen.typeIs (s := { s with heap := _ }) (gty k1)) ?_)
  simp only [h1, h2, h3, Bool.or_false, Bool.false_eq_true, if_false]
  refine wpAny_bind (wpAny_pyIter_gen (s := { s with heap := _ }) (gty k1) ?_)
  refine wpAny_bind (wpAny_holding ?_)
  unfold Builtin.List.listLengthHint
  refine wpAny_bind (wpAny_specialOf (Heap.IsGen.typeIs (s := { s with heap := _ }) (gty k1)) F.gen_no_len ?_)
  show wpAny _ A.in1 (specialOf (Value.ref a) (Str.ofString "__length_hint__") >>= _) _ _ _
  refine wpAny_bind (wpAny_specialOf (Heap.IsGen.typeIs (s := { s with heap := _ }) (gty k1)) F.gen_no_hint ?_)
  refine wpAny_pure ?_
  show wpAny _ A.in1 (rule "list.extend.makes-room" >>= fun _ => Builtin.List.listTouch (.ref s.heap.objs.size) >>= fun _ =>
    again (.builtin "list.extend.loop" ⟨[.ref s.heap.objs.size, .ref a, .ref s.heap.objs.size], []⟩)) _ _ _
  refine wpAny_bind (wpAny_rule ?_)
  refine wpAny_bind ?_
  show wpAny _ A.in1 (updateSeq s.heap.objs.size (·.push .none) >>= fun _ => updateSeq s.heap.objs.size (·.pop)) _ _ _
  have up : ∀ (h : Heap) (f : Obj → Obj), (∀ b o, s.heap.get? b = some o → h.get? b = some o) → ∀ b o, s.heap.get? b = some o → (h.update s.heap.objs.size f).get? b = some o := fun h f q b o e =>
    (Heap.get?_update_other _ _ (Ne.symm (Nat.ne_of_lt (Heap.lt_size e)))).trans (q b o e)
  refine wpAny_bind (wpAny_updateSeq hS rfl ?_)
  have hS3 := Heap.get?_update_self (Obj.mapSeq (·.push Value.none)) hS rfl
  refine wpAny_updateSeq (hz := by seq_fits) hS3 rfl ?_
  have hS4 := Heap.get?_update_self (Obj.mapSeq (·.pop)) hS3 rfl
  have k4 := up _ (Obj.mapSeq (·.pop)) (up _ (Obj.mapSeq (·.push Value.none)) k1)
  refine wpAny_pure ⟨plainId_quiet F.plain_extend_loop _, ?_⟩
  refine drainG (Yl := Yl) (P := P) (w := w) (outer := outer) (H := H) (sc := sc) (ex := ex) (Q := Q) (A := A) (g := g) hr.hd (by have := hr.dp; omega) hSa hSc (fun s' acc c H' ys q1 q2 q3 q4 q5 q6 q7 q8 q9 => ?_) sizeLine _ (gty k4) (hl.keeps k4) ⟨_, hgs, rfl, ?_⟩
  · show wpAny _ A (load s.heap.objs.size >>= _) _ _ s'
    refine wpAny_bind (wpAny_load q1 ?_)
    exact wpAny_pure (hQ s' acc.toList H' ys q2 q3 q4 q5 q6 q7 q9)
  · refine wake _ (lcon s.heap.objs.size) _ [(s.heap.objs.size, lstObj #[] _)] ⟨hr.hd, ?_, ?_⟩ hfr (lcon_ok _) (fun z => nomatch z) (fun _ _ _ => trivial) (fun S hS => by rw [List.mem_singleton.mp hS]; exact Nat.le_refl _) k4 ⟨#[], _, rfl, .nil⟩ (fun p hp => by rw [List.mem_singleton.mp hp]; exact hS4) hos (allBare_setGen (s := { s with heap := _ }) hb rfl)
    · have := hr.dp
      show A.depth + 3 * k + 5 < _
      omega
    · have := hr.un
      show A.units + 1 + 1 + 16 * k + 200 < _
      omega
end G

namespace G
open PySem L2 PySem.Spec PyProof.Rows GenW
/-! ### tuple(a generator expression) -/
theorem call_tupG {P : Program} {w : World} {outer : List PySem.Env} {H : Hp} {sc s : Shared} {ex : List Addr} {It : Nat → V → Prop} {Q : List V → Hp → Prop} {Yl : V → Hp → Prop} {A : Around} {k : Nat} {u : Value} {Q' : Value → Shared → Prop} {E : Value → Shared → Prop}
    (hr : Room (k + 4) A) (hfr : A.frames = some outer) (h : GMk P w k outer H sc ex false Yl It Q u s)
    (hQ : ∀ (s' : Shared) us H' ys, Vals ys us → ys.length ≤ sizeLine → s'.os = sc.os → AllBare s'.gens → Un (frs outer) ex H H' sc.heap s'.heap → HOk P w H' s'.heap → Q ys H' → Q' (.ref s'.heap.objs.size) { s' with heap := s'.heap.push { cls := .type "tuple", data := .seq us.toArray } }) :
    wpAny (model P w) A (call (.type "tuple") [u]) Q' E s := by
  have hr2 : Room (k + 3) A.in1.in1 := ⟨hr.hd, by have := hr.dp; show A.depth + 3 * (k + 3) + 5 < _; omega, by have := hr.un; show A.units + 1 + 1 + 16 * (k + 3) + 200 < _; omega⟩
  have hfr2 : A.in1.in1.frames = some outer := hfr
  obtain ⟨a, g, c, rfl, hm⟩ := id h
  have hTI : s.TypeIs (.ref a) "generator" := Heap.IsGen.typeIs hm.2.2.1
  refine callType_codes (Q₁ := fun obj s₁ => s₁.TypeIs obj "tuple" ∧ Q' obj s₁) F.called_tuple (F.typeCall_tuple_1 _) F.entry_object_init ?_ fun obj s₁ h₁ => ?_
  · refine codeAny_of_tree ?_
    show wpAny _ A.in1.in1 (do checkBuiltinCall "tuple.__new__" ⟨[.type "tuple", .ref a], []⟩; again (.builtin "tuple.__new__" ⟨[.type "tuple", .ref a], []⟩)) _ _ s
    refine wpAny_bind (wpAny_of_eq (F.newCall_tuple_1 _) (wpAny_pure ⟨plainId_quiet F.plain_tuple_new _, codeAny_builtin F.entry_tuple_new ?_⟩))
    rw [Around.under_plainId F.plain_tuple_new _]
    have hsub := sub_tuple_self
    have hinit := init_tuple_lookup
    have hmh := madeHere_tuple
    wp_walk using wpAny_typeOf hTI, collectG hr2 hfr2 h
    intro s' us H' ys q1 q2 q3 q4 q5 q6 q7
    show wpAny _ _ (Builtin.Tuple.tupleExact us.toArray >>= fun v => ret v) _ _ _
    unfold Builtin.Tuple.tupleExact
    refine wpAny_bind (wpAny_newObj_type ?_ (by show us.toArray.size ≤ sizeLine; rw [List.size_toArray, ← q1.length]; exact q2))
    refine wpAny_pure ?_
    exact ⟨⟨_, Heap.get?_push_size _ rfl, rfl⟩, hQ s' us H' ys q1 q2 q3 q4 q5 q6 q7⟩
  · exact ⟨h₁.1, F.args_object_init_2 obj _, object_init_meets F.called_tuple.init.lookup F.called_tuple.made (by decide) P w A.in1 _ s₁ ⟨h₁.1, rfl, h₁.2⟩⟩
def dTupG (f : Env → Store → R Th) : DE := fun env st => (f env st).bind fun th st => (th false st).b fun xs st => if xs.length ≤ 16777216 then .ok (.tup xs) st else .bad
section
variable {X : Cx} {g : GC} {W : WX} {k : Nat} {pos : Pos}
theorem pd_tupG {e : Expr} {f : Env → Store → R Th} {j : Nat} {p : Pos} (O : Ok X g W k) (F : PGx X g W j e f) (hj : j + 4 ≤ k) (hm : X.mg "tuple" = none) (hg : Gl X "tuple" := by rfl)
    (he : starEach [e] X.env = (false, eval e X.env) :: starEach [] X.env := by rfl) : PD X g W (.Call (.Name "tuple" p) [e] [] pos) (dTupG f) := by
  refine ⟨fun pins s σ H Q I ⟨μ, env, st, S, E, h⟩ => ?_⟩
  refine wpAny_Call_Name_kw (ld_blt I hg hm boot_tuple ?_)
  refine PyProof.Rows.callWith_type1 ?_ he rfl
  rw [he]
  show wpAny _ _ (spliced ((false, eval e X.env) :: backTo pos (starEach [] X.env))) _ _ s
  refine Calls.spliced_cons (F.run pins s σ H _ μ env st false I S E ?_)
  have h : Post g W σ μ H ((f env st).bind fun th st => (th false st).b fun xs st => if xs.length ≤ 16777216 then R.ok (D.tup xs) st else .bad) (VP g Q) := h
  generalize f env st = r at h ⊢
  cases r with
  | ex c st1 => exact h
  | bad => exact h
  | ok th st1 =>
    intro μ1 H1 L1 S1
    have h : Post g W σ μ H ((th false st1).b fun xs st => if xs.length ≤ 16777216 then R.ok (D.tup xs) st else .bad) (VP g Q) := h
    cases et : th false st1 with
    | ex c st2 => rw [et] at h; exact h.elim
    | bad => rw [et] at h; exact h.elim
    | ok outs st2 =>
      rw [et] at h
      have h : Post g W σ μ H (if outs.length ≤ 16777216 then R.ok (D.tup outs) st2 else .bad) (VP g Q) := h
      intro u sc ex s' I1 hex hG
      refine Calls.spliced_nil ?_
      refine call_tupG (O.room.mono hj) I1.ok.frames hG fun s2 us H' ys q1 q2 q3 q4 q5 q6 q7 => ?_
      obtain ⟨μ2, L2', S2, r2⟩ := q7
      have I2 : Inv X pins σ H' s2 := I1.call' (ch := ex) q3 q5 q6 q4 hex
      have hn : H' s2.heap.objs.size = none := I2.hok.fresh (Nat.le_refl _)
      have I3 : Inv X pins σ (upd H' s2.heap.objs.size (.tup ys)) { s2 with heap := s2.heap.push { cls := .type "tuple", data := .seq us.toArray } } :=
        I2.laid (t' := s2.toks) (fun b o e => Heap.get?_push_of_some _ e) (Nat.le_refl _) (show ObjOk X.prog X.w _ _ _ (.tup ys) from ⟨q2, us, q1, IsTup.new _ _⟩)
      split at h
      · refine ⟨.ref s2.heap.objs.size, _, I3, rfl, ?_⟩
        exact mkT_ok S2 r2 (Post.le (L1.trans L2') h) hn
      · exact h.elim
end
end G

namespace G
open PySem L2
/-! ### in, not in -/
def aIn (neg : Bool) (x y : D) (st : Store) : R D := match seqA st y with
  | some ds => if x.isSc = true ∧ ds.all D.isSc = true then .ok (.bl (if neg = true then !(ds.any fun d => D.eqv d x) else ds.any fun d => D.eqv d x)) st else .bad
  | none => .bad
section
variable {X : Cx} {g : GC} {W : WX} {k : Nat} {pos : Pos} {μ : Mp} {H : Hp}
theorem flat_ok {d : D} {v : V} (r : Rep g μ H d v) (h : d.isSc = true) : flatV v = true := by
  cases d <;> first | (cases h; done) | (cases r; rfl)
theorem eqv_ok {d e : D} {v u : V} (r : Rep g μ H d v) (q : Rep g μ H e u) (h : d.isSc = true) (h' : e.isSc = true) : eqV v u = D.eqv d e := by
  cases d <;> first | (cases h; done) | (cases e <;> first | (cases h'; done) | (cases r; cases q; first | rfl | simp [eqV, D.eqv]))
theorem flats_ok : ∀ {ds : List D} {vs : List V}, Reps g μ H ds vs → ds.all D.isSc = true → vs.all flatV = true
  | [], vs, r, _ => by rw [show vs = [] from r] <;> rfl
  | d :: ds, vs, r, h => by
    obtain ⟨v, vr, e, r1, r2⟩ := r
    subst e
    rw [List.all_cons, Bool.and_eq_true] at h ⊢
    exact ⟨flat_ok r1 h.1, flats_ok r2 h.2⟩
theorem in_ok {x : D} {v : V} (q : Rep g μ H x v) (hx : x.isSc = true) : ∀ {ds : List D} {vs : List V}, Reps g μ H ds vs → ds.all D.isSc = true → inV v vs = ds.any fun d => D.eqv d x
  | [], vs, r, _ => by rw [show vs = [] from r] <;> rfl
  | d :: ds, vs, r, h => by
    obtain ⟨u, vr, e, r1, r2⟩ := r
    subst e
    rw [List.all_cons, Bool.and_eq_true] at h
    have ih := in_ok q hx r2 h.2
    unfold inV at ih ⊢
    rw [List.any_cons, List.any_cons, ih, eqv_ok r1 q h.1 hx]
theorem oIn (O : Ok X g W k) : OpD X g W (compareOp .In) (aIn false) := by
  refine ⟨_, op_in_seq, fun σ μ H st x y v u Q S rx ry h => ?_⟩
  unfold aIn at h
  split at h
  · rename_i ds e
    obtain ⟨a, vs, e1, hs, r⟩ := seqA_ok S ry e
    split at h
    · rename_i hh
      rw [O.hK]
      refine ⟨a, vs, e1, hs, flat_ok rx hh.1, flats_ok r hh.2, ?_⟩
      rw [if_neg Bool.false_ne_true] at h
      rw [if_neg Bool.false_ne_true, in_ok rx hh.1 r hh.2]
      exact h.here S _ rfl
    · exact h.elim
  · exact h.elim
theorem oNotIn (O : Ok X g W k) : OpD X g W (compareOp .NotIn) (aIn true) := by
  refine ⟨_, op_notIn_seq, fun σ μ H st x y v u Q S rx ry h => ?_⟩
  unfold aIn at h
  split at h
  · rename_i ds e
    obtain ⟨a, vs, e1, hs, r⟩ := seqA_ok S ry e
    split at h
    · rename_i hh
      rw [O.hK]
      refine ⟨a, vs, e1, hs, flat_ok rx hh.1, flats_ok r hh.2, ?_⟩
      rw [if_pos rfl] at h
      rw [if_pos rfl, in_ok rx hh.1 r hh.2]
      exact h.here S _ rfl
    · exact h.elim
  · exact h.elim
/-! ### list.append -/
def dAppend (fo fe : DE) : DE := fun env st => (fo env st).bind fun o st => match o with
  | .ref n => (match lstAt st n with
    | some _ => (fe env st).bind fun d st => (match lstAt st n with
      | some ds => if ds.length < 16777216 then .ok .non (st.set n (.lst (ds ++ [d]))) else .bad
      | none => .bad)
    | none => .bad)
  | _ => .bad
theorem pd_append {o e : Expr} {fo fe : DE} {apos cpos : Pos} (O : Ok X g W k) (ho : PD X g W o fo) (he : PD X g W e fe) (hbase : attributeBase o "append" X.env (eval o X.env) = eval o X.env := by rfl)
    (hfew : ((backTo cpos (starEach [e] X.env)).all (fun x => !x.1) && (backToKw cpos (keywordEach [] X.env)).all (fun x => x.1.isSome)
      && decide ([e].length + ([] : List Keyword).length + (if ([] : List Keyword).isEmpty then 0 else 1) < 30)) = true := by rfl)
    (hline : (apos.endLine == cpos.line) = true := by rfl) (hs : starEach [e] X.env = (false, eval e X.env) :: starEach [] X.env := by rfl) :
    PD X g W (.Call (.Attribute o "append" apos) [e] [] cpos) (dAppend fo fe) :=
  PE.imp (pe_bm PySem.F.plainAttrs_list PySem.F.slot_list_append PySem.F.type_list_append mt_append ho (L2.pa_cons he L2.pa_nil hs) hbase hfew hline hs rfl) fun σ H Q ⟨μ, env, st, S, E, h⟩ => by
    refine bindE S E h fun μ1 H1 od st1 ov L1 S1 E1 r1 h1 => ?_
    cases od with
    | ref n =>
      have h1 : Post g W σ μ1 H1 (match lstAt st1 n with
        | some _ => (fe env st1).bind fun d st => (match lstAt st n with
          | some ds => if ds.length < 16777216 then R.ok D.non (st.set n (.lst (ds ++ [d]))) else .bad
          | none => .bad)
        | none => .bad) (VP g Q) := h1
      split at h1
      · rename_i ds0 e0
        obtain ⟨a, ea, ha⟩ := r1
        obtain ⟨vs0, q0, _⟩ := S1.at_ n a _ ha (lstAt_eq e0)
        subst ea
        refine ⟨.inl ⟨rfl, vs0, .inl (.inl q0)⟩, ?_⟩
        refine bindE S1 E1 h1 fun μ2 H2 d st2 v L2' S2 E2 r2 h2 => ?_
        split at h2
        · rename_i ds e2
          split at h2
          · rename_i hl
            have ha2 := L2'.pre n a ha
            obtain ⟨vs, q2, r3⟩ := S2.at_ n a _ ha2 (lstAt_eq e2)
            have hm := List.mem_of_getElem? ha2
            have L5 := le_set (o := .lst (vs ++ [v])) S2 hm
            refine ⟨a, vs, v, rfl, rfl, q2, by rw [← r3.len, sizeLine_eq]; exact hl, ?_⟩
            exact h2 μ2 _ L5 (S2.set ha2 ⟨_, upd_same, (r3.append (show Reps g μ2 H2 [d] [v] from ⟨v, [], rfl, r2, rfl⟩)).le L5⟩) _ rfl
          · exact h2.elim
        · exact h2.elim
      · exact h1.elim
    | _ => exact h1.elim
end
end G

namespace G
open PySem L2
section
variable {P : Program} {w : World} {mg : Str → Option Value} {base h : Heap} {g : GC} {K : PySem.W.Frag}
/-- a def that makes generator expressions -/
theorem fn_G {x : Str} {st : Stmt} {N ps : List Str} {j n : Nat} {fb : DS} (F : DefL g mg x st ps) (B : LamX.TabB base mg (g.cp x).1 (g.cp x).2) (mT : ((g.cp x).2, (x ++ ".<locals>.") ++ "<genexpr>") ∈ g.T) (hu : ∀ p ∈ g.T, p.1 = (g.cp x).2 → p.2 = (x ++ ".<locals>.") ++ "<genexpr>") (S : FnScope N ps (defScope st)) (hn : ps.length = n)
    (body : ∀ (fa : Addr) (cdv : Value) (A : Around) (outer : List PySem.Env) (s : Shared) (H : Hp) (E : XK), Ok (bodyCx P w g.K mg base N x (defScope st) fa cdv A outer s H E) g (WB E) j → Lg (bodyCx P w g.K mg base N x (defScope st) fa cdv A outer s H E) g → PSsD (bodyCx P w g.K mg base N x (defScope st) fa cdv A outer s H E) g (WB E) (defBody st) fb) :
    FnD P w mg base g (j + 1) x n (runB N.length fb) := by
  obtain ⟨fa, oc, kV, doc, pm, ct, od, an, osl, lk, hcd, kp, hm, hb⟩ := F
  refine ⟨fa, _, ps, hm, kp, hb, fn_of lk hcd S (fun vs H Q E h => h.1.trans hn.symm) fun A outer s H vs Q E hr h => ⟨_, body fa (.ref (g.cp x).1) A outer s H E ⟨rfl, takes_of rfl rfl rfl rfl, passes_of rfl, rfl, S.nd, hr⟩ ⟨_, _, B, rfl, mT, hu⟩, ?_⟩⟩
  obtain ⟨hl, μ, st0, ds, S0, r, q⟩ := h
  refine ⟨μ, _, st0, S0, reps_env r N.length, ?_⟩
  unfold runB at q
  generalize fb (ds.map some ++ List.replicate (N.length - ds.length) none) st0 = rr at q ⊢
  cases rr with
  | nx env st1 => exact fun μ' H' σ' L S' _ => q μ' H' L S' _ rfl
  | rt d st1 => exact fun μ' H' v L S' rv => q μ' H' L S' v rv
  | bk env st1 => exact q.elim
  | ct env st1 => exact q.elim
  | ex c env st1 => exact fun μ' H' σ' L S' _ => q μ' H' L S'
  | bad => exact q.elim
end
/-- the table of a def of the view -/
theorem tab_at {p : Program} {loose : List Str} {mean : ExcName → Option Value} {mg mb : Str → Option Value} {h : Heap} {K : PySem.W.Frag} {x : Str} {c P : Addr} (T : PyProof.Rows.Top p loose mean mg mb h) (X : K.In h) (hr : ((PyProof.Rows.recsOf p).find? fun e => e.name == x).isSome = true) (ht : PySem.W.tabIn K x = some (c, P)) : PySem.W.CodeHd h c P ∧ h.get? P = some { cls := .none, data := .fields #[] } := by
  obtain ⟨d, hd⟩ := Option.isSome_iff_exists.mp hr
  exact PySem.W.tab_of T X hd ht
open PySem.W in
/-- the walk's end, the top in hand -/
theorem walk_top {l : OpenLaw} {n k : Nat} {q : Program} {loose : List Str} {XP : (Str → Option Value) → Heap → Prop} {YP : World → Heap → Prop} {d : DefRec} {K : Params → Frag} {CX : World → CXT} {x : Str}
    (h1 : l.most = some n) (h2 : n ≤ sizeLine) (h3 : d.params.defaults = []) (h4 : Room k callerA) (h5 : ∀ (w : World) (h : Heap), YP w h → (K w.params).In h)
    (F : ∀ (w : World) (s₀ : Shared) (mg mb : Str → Option Value) (fa : Addr) (h : Heap), YP w h → (K w.params).In h → Ground q loose [] XP w s₀ mg mb h → mg d.name = some (.ref fa) → LamX.LawAtS l w (K w.params) (CX w) k n x mg fa h)
    (h6 : ∀ (w : World) (H : Hp) (s : Shared) (e : Value) (s' : Shared), CX w [] H s (fun _ _ _ => False) e s' → False) : WalkO q loose XP YP l.row.toRowW d [] (fun f vs => PySem.call f vs) := by
  refine Att.attach_callB h1 h3 fun w s₀ s₁ mg mb fa o pm cd doc a vs ns Gr Y ho hd hcd hmg hobj hints hlen hbits hg => ?_
  have KX := h5 w _ Y
  obtain ⟨fd, cs, sp, hT, nT, C, hb, hsp, hF⟩ := F w s₀ mg mb fa _ Y KX Gr hmg
  exact LamX.law_callTs KX Gr.T.g Gr.T.b Gr.T.builtins Gr.T.nolimit hg hT nT C Gr.T.bmain hobj hints (Nat.le_trans hlen h2) h4 hF hb (fun H hH hS => hsp H a ns hlen hbits hH hS) fun H e s' => h6 w H s₁ e s'
end G

namespace G
open PySem L2
/-! ### a def held by a name -/
def dCallFn (FT : List (Str × (List D → Store → R D))) (i : Nat) (fa : DA) : DE := fun env st => match env[i]? with
  | some (some (.fn x)) => (match FT.lookup x with
    | some f => (fa env st).bind fun ds st => f ds st
    | none => .bad)
  | _ => .bad
section
variable {X : Cx} {g : GC} {W : WX} {k : Nat} {pos : Pos}
theorem pd_callFn (i : Nat) {a : Str} {p1 : Pos} {n j : Nat} {e : Expr} {es : List Expr} {fa : DA} {FT : List (Str × (List D → Store → R D))} (O : Ok X g W k)
    (F : ∀ x f, FT.lookup x = some f → FnD X.prog X.w X.mg X.base g j x n f ∧ X.mg x = some (.ref (g.ga x))) (hj : j ≤ k) (ha : PAD X g W (e :: es) fa) (hn : ∀ env st ds st', fa env st = .ok ds st' → ds.length = n) (hN : X.N[i]? = some a := by rfl) (hv : Vis X.env.scope a := by first | exact Or.inl rfl | exact Or.inr (Or.inl rfl) | exact Or.inr (Or.inr rfl))
    (hd : (a == ("__debug__" : Str)) = false := by decide) (hcd : (a == ("__classdict__" : Str)) = false := by decide) (he : starEach (e :: es) X.env = (false, eval e X.env) :: starEach es X.env := by rfl) (hpl : (backTo pos (starEach es X.env)).any (·.1) = false := by rfl) :
    PD X g W (.Call (.Name a p1) (e :: es) [] pos) (dCallFn FT i fa) := by
  refine ⟨fun pins s σ H Q I ⟨μ, env, st, S, E, q⟩ => ?_⟩
  unfold dCallFn at q
  split at q
  · rename_i x hx
    split at q
    · rename_i f hf
      obtain ⟨v, hs, ev⟩ := E.at_ i _ hx
      have ev : v = .ref (g.ga x) := ev
      subst ev
      obtain ⟨⟨fA, fd, ps, h1, h2, h3, h4⟩, hm⟩ := F x f hf
      rw [hm] at h1
      cases h1
      rw [← O.hK] at h2 h3 h4
      refine wpAny_Call_Name_kw (thn ((pe_var (pos := p1) (i := i) hN hv hd hcd).run pins s σ H (fun v H1 => v = .ref (g.ga x) ∧ H1 = H) I ⟨.ref (g.ga x), hs, rfl, rfl⟩) fun u s1 h1 => ?_)
      obtain ⟨v, H1, I1, r1, ev, eH⟩ := h1
      subst ev eH
      obtain rfl : u = Value.ref (g.ga x) := r1
      have hn := hn env st
      refine PySem.W.callWith_K (h₀ := X.base) I1.ok.mod.kin h2 (thn (ha.run pos pins s1 σ H1 (fun vs H2 => spD g n f vs H2 Q (fun c d H => W c d σ H)) I1 ⟨μ, env, st, S, E, ?_⟩) fun us s2 h5 => ?_) he hpl
      · have q : Post g W σ μ H1 ((fa env st).bind fun ds st => f ds st) (VP g Q) := q
        generalize fa env st = r at q hn ⊢
        cases r with
        | ok ds st1 => exact fun μ1 H2 L S1 vs rv => ⟨by rw [← rv.len]; exact hn ds st1 rfl, μ1, st1, ds, S1, rv, by
          have q := Post.le L q
          have q : Post g W σ μ1 H2 (f ds st1) (VP g Q) := q
          generalize f ds st1 = r at q ⊢
          cases r with
          | ok d st2 => exact q
          | ex c st2 => exact q
          | bad => exact q⟩
        | ex c st1 => exact q
        | bad => exact q
      · obtain ⟨vs, H2, I2, r2, q2⟩ := h5
        exact ⟨I2.kIn, run_fnS (E := fun σ => WE W σ) h4 (O.room.mono hj) h3 (passAt O.tk σ) I2 r2 q2⟩
    · exact q.elim
  · exact q.elim
/-! ### tuples of ints: <= -/
def lexLe : List Int → List Int → Bool
  | [], _ => true
  | _ :: _, [] => false
  | x :: xs, y :: ys => if x = y then lexLe xs ys else decide (x ≤ y)
theorem lexAt_le (ns ms : List Int) : ∀ (k i : Nat), i + k = min ns.length ms.length →
    Ob.lexAt (fun j => decide (ns.getD j 0 = ms.getD j 0)) (fun j => decide (ns.getD j 0 ≤ ms.getD j 0)) (decide (ns.length ≤ ms.length)) i k = lexLe (ns.drop i) (ms.drop i)
  | 0, i, h => by
    show decide (ns.length ≤ ms.length) = _
    by_cases hl : ns.length ≤ ms.length
    · have hi : i = ns.length := by omega
      rw [hi, List.drop_length]
      simp [lexLe, hl]
    · have hi : i = ms.length := by omega
      rw [hi, List.drop_length, List.drop_eq_getElem_cons (by omega)]
      simp [lexLe, hl]
  | k + 1, i, h => by
    have h1 : i < ns.length := by omega
    have h2 : i < ms.length := by omega
    rw [Ob.lexAt_succ, lexAt_le ns ms k (i + 1) (by omega), List.drop_eq_getElem_cons h1, List.drop_eq_getElem_cons h2]
    have e1 : ns.getD i 0 = ns[i] := by simp [h1]
    have e2 : ms.getD i 0 = ms[i] := by simp [h2]
    rw [e1, e2]
    by_cases c : ns[i] = ms[i]
    · simp [lexLe, c]
    · simp [lexLe, c]
def aLeT : D → D → Store → R D
  | .int i, .int j, st => .ok (.bl (decide (i ≤ j))) st
  | .tup xs, .tup ys, st => match intsD xs, intsD ys with
    | some ns, some ms => .ok (.bl (lexLe ns ms)) st
    | _, _ => .bad
  | _, _, _ => .bad
theorem oLeT (O : Ok X g W k) : OpD X g W (compareOp .LtE) aLeT := by
  refine ⟨_, op_le.or (op_leT (by have := O.hu; omega)), fun σ μ H st x y v u Q S rx ry h => ?_⟩
  unfold aLeT at h
  split at h
  · exact .inl ⟨_, _, rx, ry, h.here S _ rfl⟩
  · split at h
    · rename_i xs ys ns ms h1 h2
      obtain ⟨a, vs, e1, q1, r1⟩ := seqT_ok rx rfl
      obtain ⟨a2, vs2, e2, q2, r2⟩ := seqT_ok ry rfl
      refine .inr ?_
      rw [O.hK]
      rw [ints_ok h1 r1] at q1
      rw [ints_ok h2 r2] at q2
      refine ⟨a, a2, ns, ms, e1, e2, q1, q2, ?_⟩
      rw [lexAt_le ns ms _ 0 (by omega)]
      exact h.here S _ rfl
    · exact h.elim
  · exact h.elim
end
end G

namespace G
open PySem L2
/-! ### sorted -/
def insI (x : Int) : List Int → List Int
  | [] => [x]
  | y :: r => if x ≤ y then x :: y :: r else y :: insI x r
def sortI (l : List Int) : List Int := l.foldr insI []
theorem insI_perm (x : Int) : ∀ l, (insI x l).Perm (x :: l)
  | [] => .refl _
  | y :: r => by
    unfold insI
    split
    · exact .refl _
    · exact ((insI_perm x r).cons y).trans (.swap x y r)
theorem sortI_perm : ∀ l, (sortI l).Perm l
  | [] => .refl _
  | x :: l => (insI_perm x _).trans ((sortI_perm l).cons x)
theorem insI_sorted (x : Int) : ∀ l, l.Pairwise (· ≤ ·) → (insI x l).Pairwise (· ≤ ·)
  | [], _ => List.pairwise_singleton _ _
  | y :: r, h => by
    obtain ⟨h1, h2⟩ := List.pairwise_cons.mp h
    unfold insI
    split
    · rename_i c
      refine List.pairwise_cons.mpr ⟨fun z hz => ?_, h⟩
      rcases List.mem_cons.mp hz with rfl | hz
      · exact c
      · exact Int.le_trans c (h1 z hz)
    · rename_i c
      refine List.pairwise_cons.mpr ⟨fun z hz => ?_, insI_sorted x r h2⟩
      rcases List.mem_cons.mp ((insI_perm x r).mem_iff.mp hz) with rfl | hz
      · omega
      · exact h1 z hz
theorem sortI_sorted : ∀ l, (sortI l).Pairwise (· ≤ ·)
  | [] => .nil
  | x :: l => insI_sorted x _ (sortI_sorted l)
theorem sortI_eq {ns ms : List Int} (h : ms.Perm ns) (p : ms.Pairwise (· ≤ ·)) : ms = sortI ns :=
  List.Perm.eq_of_pairwise (le := (· ≤ ·)) (fun _ _ _ _ h1 h2 => Int.le_antisymm h1 h2) p (sortI_sorted ns) (h.trans (sortI_perm ns).symm)
theorem lexLe_total : ∀ a b : List Int, lexLe a b = true ∨ lexLe b a = true
  | [], _ => .inl rfl
  | _ :: _, [] => .inr rfl
  | x :: a, y :: b => by
    unfold lexLe
    by_cases h : x = y
    · subst h
      simp
      exact lexLe_total a b
    · have h' : ¬ y = x := fun z => h z.symm
      simp [h, h']
      omega
theorem lexLe_trans : ∀ a b c : List Int, lexLe a b = true → lexLe b c = true → lexLe a c = true
  | [], _, _, _, _ => rfl
  | _ :: _, [], _, h, _ => by cases h
  | _ :: _, _ :: _, [], _, h => by cases h
  | x :: a, y :: b, z :: c, h1, h2 => by
    unfold lexLe at h1 h2 ⊢
    by_cases e1 : x = y
    · subst e1
      by_cases e2 : x = z
      · subst e2
        simp at h1 h2 ⊢
        exact lexLe_trans a b c h1 h2
      · simp [e2] at h2 ⊢
        exact h2
    · by_cases e2 : y = z
      · subst e2
        simp [e1] at h1 ⊢
        exact h1
      · simp [e1] at h1
        simp [e2] at h2
        have : ¬ x = z := by omega
        simp [this]
        omega
theorem lexLe_anti : ∀ a b : List Int, lexLe a b = true → lexLe b a = true → a = b
  | [], [], _, _ => rfl
  | [], _ :: _, _, h => by cases h
  | _ :: _, [], h, _ => by cases h
  | x :: a, y :: b, h1, h2 => by
    unfold lexLe at h1 h2
    by_cases e : x = y
    · subst e
      simp at h1 h2
      rw [lexLe_anti a b h1 h2]
    · have e' : ¬ y = x := fun z => e z.symm
      simp [e] at h1
      simp [e'] at h2
      omega
def insT (x : List Int) : List (List Int) → List (List Int)
  | [] => [x]
  | y :: r => if lexLe x y = true then x :: y :: r else y :: insT x r
def sortT (l : List (List Int)) : List (List Int) := l.foldr insT []
theorem insT_perm (x : List Int) : ∀ l, (insT x l).Perm (x :: l)
  | [] => .refl _
  | y :: r => by
    unfold insT
    split
    · exact .refl _
    · exact ((insT_perm x r).cons y).trans (.swap x y r)
theorem sortT_perm : ∀ l, (sortT l).Perm l
  | [] => .refl _
  | x :: l => (insT_perm x _).trans ((sortT_perm l).cons x)
theorem insT_sorted (x : List Int) : ∀ l, l.Pairwise (lexLe · · = true) → (insT x l).Pairwise (lexLe · · = true)
  | [], _ => List.pairwise_singleton _ _
  | y :: r, h => by
    obtain ⟨h1, h2⟩ := List.pairwise_cons.mp h
    unfold insT
    split
    · rename_i c
      refine List.pairwise_cons.mpr ⟨fun z hz => ?_, h⟩
      rcases List.mem_cons.mp hz with rfl | hz
      · exact c
      · exact lexLe_trans _ _ _ c (h1 z hz)
    · rename_i c
      refine List.pairwise_cons.mpr ⟨fun z hz => ?_, insT_sorted x r h2⟩
      rcases List.mem_cons.mp ((insT_perm x r).mem_iff.mp hz) with rfl | hz
      · exact (lexLe_total z y).resolve_left c
      · exact h1 z hz
theorem sortT_sorted : ∀ l, (sortT l).Pairwise (lexLe · · = true)
  | [] => .nil
  | x :: l => insT_sorted x _ (sortT_sorted l)
theorem sortT_eq {ns ms : List (List Int)} (h : ms.Perm ns) (p : ms.Pairwise (lexLe · · = true)) : ms = sortT ns :=
  List.Perm.eq_of_pairwise (le := (lexLe · · = true)) (fun _ _ _ _ h1 h2 => lexLe_anti _ _ h1 h2) p (sortT_sorted ns) (h.trans (sortT_perm ns).symm)
theorem code_lex {B : Int} : ∀ {a b : List Int}, a.length = b.length → TS.Bd B a → TS.Bd B b → TS.code B a ≤ TS.code B b → lexLe a b = true
  | [], _, _, _, _, _ => rfl
  | x :: a, [], h, _, _, _ => by cases h
  | x :: a, y :: b, hl, ha, hb, h => by
    have hl2 : a.length = b.length := by simpa using hl
    have ha' : TS.Bd B a := fun m hm => ha m (List.mem_cons_of_mem _ hm)
    have hb' : TS.Bd B b := fun m hm => hb m (List.mem_cons_of_mem _ hm)
    unfold lexLe
    by_cases e : x = y
    · subst e
      rw [if_pos rfl]
      refine code_lex hl2 ha' hb' ?_
      by_cases c : TS.code B b < TS.code B a
      · have := (TS.code_same (B := B) (d := x) hl2.symm).mpr c
        omega
      · omega
    · rw [if_neg e]
      by_cases c : y < x
      · have := TS.code_lt hl2.symm hb' ha' c
        omega
      · simp
        omega
theorem reps_perm {g : GC} {μ : Mp} {H : Hp} {vs ys : List V} (p : ys.Perm vs) : ∀ {ds : List D}, Reps g μ H ds vs → ∃ es, es.Perm ds ∧ Reps g μ H es ys := by
  induction p with
  | nil => exact fun {ds} r => ⟨ds, .refl _, r⟩
  | cons x p ih =>
    intro ds r
    cases ds with
    | nil => cases (show _ = [] from r)
    | cons d ds =>
      obtain ⟨v, vr, e, r1, r2⟩ := r
      cases e
      obtain ⟨es, h1, h2⟩ := ih r2
      exact ⟨d :: es, h1.cons d, _, _, rfl, r1, h2⟩
  | swap x y l =>
    intro ds r
    match ds, r with
    | [], r => cases (show _ = [] from r)
    | [d], r =>
      obtain ⟨v, vr, e, r1, r2⟩ := r
      cases e
      cases (show _ = [] from r2)
    | d :: d2 :: ds, r =>
      obtain ⟨v, vr, e, r1, v2, vr2, e2, r2, r3⟩ := r
      cases e
      cases e2
      exact ⟨d2 :: d :: ds, .swap _ _ _, _, _, rfl, r2, _, _, rfl, r1, r3⟩
  | trans p q ih1 ih2 =>
    intro ds r
    obtain ⟨es, h1, h2⟩ := ih2 r
    obtain ⟨es', h3, h4⟩ := ih1 h2
    exact ⟨es', h3.trans h1, h4⟩
/-- tuples of ints -/
def keysD : List D → Option (List (List Int))
  | [] => some []
  | .tup xs :: r => match intsD xs, keysD r with
    | some ns, some ks => some (ns :: ks)
    | _, _ => none
  | _ :: _ => none
def tupI (ns : List Int) : D := .tup (ns.map .int)
theorem ints_inv : ∀ {xs : List D} {ns : List Int}, intsD xs = some ns → xs = ns.map .int
  | [], ns, e => by cases e; rfl
  | .int i :: r, ns, e => by
    have e : (intsD r).map (i :: ·) = some ns := e
    cases q : intsD r with
    | none => rw [q] at e; cases e
    | some ms =>
      rw [q] at e
      cases e
      rw [ints_inv q]
      rfl
  | .non :: _, _, e => by cases e
  | .bl _ :: _, _, e => by cases e
  | .str _ :: _, _, e => by cases e
  | .tup _ :: _, _, e => by cases e
  | .lst _ :: _, _, e => by cases e
  | .dic _ _ :: _, _, e => by cases e
  | .ref _ :: _, _, e => by cases e
  | .fn _ :: _, _, e => by cases e
  | .lam _ :: _, _, e => by cases e
  | .scr _ :: _, _, e => by cases e
theorem keys_inv : ∀ {ds : List D} {ks : List (List Int)}, keysD ds = some ks → ds = ks.map tupI
  | [], ks, e => by cases e; rfl
  | d :: r, ks, e => by
    cases d with
    | tup xs =>
      unfold keysD at e
      split at e
      · rename_i ns ks' h1 h2
        cases e
        rw [keys_inv h2, List.map_cons, tupI, ints_inv h1]
      · cases e
    | _ => cases e
def unT : D → List Int
  | .tup xs => (intsD xs).getD []
  | _ => []
theorem unT_tup (ns : List Int) : unT (tupI ns) = ns := by
  unfold unT tupI
  simp
theorem perm_keys {es : List D} {ks : List (List Int)} (p : es.Perm (ks.map tupI)) : ∃ ks' : List (List Int), ks'.Perm ks ∧ es = ks'.map tupI := by
  have all : ∀ d ∈ es, tupI (unT d) = d := fun d hd => by
    obtain ⟨n, _, e⟩ := List.mem_map.mp (p.mem_iff.mp hd)
    rw [← e, unT_tup]
  refine ⟨es.map unT, ?_, ?_⟩
  · have q := p.map unT
    rw [List.map_map] at q
    have e : ks.map (unT ∘ tupI) = ks := by
      rw [show (unT ∘ tupI) = id from funext fun ns => unT_tup ns, List.map_id]
    rw [e] at q
    exact q
  · rw [List.map_map]
    exact (List.map_id es).symm.trans (List.map_congr_left fun d hd => (all d hd).symm)
def seqSort (ds : List D) : Option (List D) := match intsD ds with
  | some ns => some ((sortI ns).map .int)
  | none => match keysD ds with
    | some ks => if ks.length < 64 ∧ 1 ≤ (ks.headD []).length ∧ (ks.all fun k => decide (k.length = (ks.headD []).length) && k.all fun i => decide (0 ≤ i)) = true then some ((sortT ks).map tupI) else none
    | none => none
def bSorted (b : Bool) : List D → Store → R D := fun ds st => match ds with
  | [d] => (match seqL st d with
    | some ds => (match seqSort ds with
      | some es => mkL b es st
      | none => .bad)
    | none => .bad)
  | _ => .bad
section
variable {X : Cx} {g : GC} {W : WX} {k : Nat} {pos : Pos}
theorem bound_ex : ∀ ks : List (List Int), (∀ k ∈ ks, ∀ i ∈ k, 0 ≤ i) → ∃ B : Int, 0 ≤ B ∧ ∀ k ∈ ks, TS.Bd B k
  | [], _ => ⟨0, Int.le_refl _, fun _ h => nomatch h⟩
  | k :: ks, h => by
    obtain ⟨B, b0, hB⟩ := bound_ex ks fun k' hk => h k' (List.mem_cons_of_mem _ hk)
    have one : ∀ l : List Int, (∀ i ∈ l, 0 ≤ i) → ∃ C : Int, B ≤ C ∧ ∀ i ∈ l, 0 ≤ i ∧ i < C := by
      intro l
      induction l with
      | nil => exact fun _ => ⟨B, Int.le_refl _, fun _ h => nomatch h⟩
      | cons i l ih =>
        intro h
        obtain ⟨C, h1, h2⟩ := ih fun j hj => h j (List.mem_cons_of_mem _ hj)
        have hi := h i List.mem_cons_self
        refine ⟨C + i + 1, by omega, fun j hj => ?_⟩
        rcases List.mem_cons.mp hj with rfl | hj
        · omega
        · have := h2 j hj
          omega
    obtain ⟨C, h1, h2⟩ := one k (h k List.mem_cons_self)
    refine ⟨C, by omega, fun k' hk i hi => ?_⟩
    rcases List.mem_cons.mp hk with rfl | hk
    · exact h2 i hi
    · have := hB k' hk i hi
      omega
theorem keys_tup {μ : Mp} {H : Hp} : ∀ {ks : List (List Int)} {vs : List V}, Reps g μ H (ks.map tupI) vs → vs.length = ks.length ∧ ∀ x ∈ vs, ∃ n ∈ ks, TupI g.K H x n
  | [], vs, r => by rw [show vs = [] from r]; exact ⟨rfl, fun _ h => nomatch h⟩
  | n :: ks, vs, r => by
    obtain ⟨v, vr, e, r1, r2⟩ := r
    subst e
    obtain ⟨h1, h2⟩ := keys_tup r2
    refine ⟨by simp [h1], fun x hx => ?_⟩
    rcases List.mem_cons.mp hx with rfl | hx
    · obtain ⟨a, us, ea, hs, ru⟩ := seqT_ok (d := tupI n) r1 rfl
      rw [ints_ok (ints_map n) ru] at hs
      exact ⟨n, List.mem_cons_self, a, ea, hs⟩
    · obtain ⟨m, hm, q⟩ := h2 x hx
      exact ⟨m, List.mem_cons_of_mem _ hm, q⟩
theorem keys_pair {μ : Mp} {H : Hp} {R : List Int → List Int → Prop} : ∀ {ks : List (List Int)} {vs : List V}, Reps g μ H (ks.map tupI) vs → vs.Pairwise (fun x y => ∀ n m, TupI g.K H x n → TupI g.K H y m → R n m) → ks.Pairwise R
  | [], vs, r, _ => .nil
  | n :: ks, vs, r, p => by
    obtain ⟨v, vr, e, r1, r2⟩ := r
    subst e
    obtain ⟨p1, p2⟩ := List.pairwise_cons.mp p
    refine List.pairwise_cons.mpr ⟨fun m hm => ?_, keys_pair r2 p2⟩
    have t1 : TupI g.K H v n := by
      obtain ⟨a, us, ea, hs, ru⟩ := seqT_ok (d := tupI n) r1 rfl
      rw [ints_ok (ints_map n) ru] at hs
      exact ⟨a, ea, hs⟩
    have at_ : ∀ {ks : List (List Int)} {vs : List V}, Reps g μ H (ks.map tupI) vs → m ∈ ks → ∃ y ∈ vs, TupI g.K H y m := by
      intro ks
      induction ks with
      | nil => exact fun _ h => nomatch h
      | cons k ks ih =>
        intro vs r hm
        obtain ⟨v, vr, e, r1, r2⟩ := r
        subst e
        rcases List.mem_cons.mp hm with rfl | hm
        · obtain ⟨a, us, ea, hs, ru⟩ := seqT_ok (d := tupI m) r1 rfl
          rw [ints_ok (ints_map m) ru] at hs
          exact ⟨v, List.mem_cons_self, a, ea, hs⟩
        · obtain ⟨y, hy, q⟩ := ih r2 hm
          exact ⟨y, List.mem_cons_of_mem _ hy, q⟩
    obtain ⟨y, hy, q⟩ := at_ r2 hm
    exact p1 y hy n m t1 q
theorem cSorted (b : Bool) (O : Ok X g W k) : CallD X g W (.builtin "sorted") (bSorted b) := by
  have hc : CallR X (.builtin "sorted") (fun vs H Q => rSortedI X.K vs H Q ∨ ∃ d B, 1 ≤ d ∧ rSortU X.K d B vs H Q) := by
    intro pins s σ H vs us Q I r h
    rcases h with h | ⟨d, B, hd, h⟩
    · exact cr_sortedI pins s σ H vs us Q I r h
    · exact cr_sortT hd pins s σ H vs us Q I r h
  refine call1 hc fun σ μ H st d v Q S r q => ?_
  split at q
  · rename_i ds hds
    obtain ⟨a, vs, ea, hs, rs⟩ := seqL_ok S r hds
    unfold seqSort at q
    split at q
    · rename_i es he
      split at he
      · rename_i ns hns
        cases he
        refine .inl ⟨a, ns, by rw [ea], by rw [O.hK, ← ints_ok hns rs]; exact hs, fun ns' p hp hso hn => ?_⟩
        have e := sortI_eq hp hso
        subst e
        exact mkL_ok S (reps_ints _) q hn
      · split at he
        · rename_i ks hks
          split at he
          · rename_i hcond
            cases he
            have ed := keys_inv hks
            subst ed
            obtain ⟨hl, hm⟩ := keys_tup rs
            simp only [List.all_eq_true, Bool.and_eq_true, decide_eq_true_eq] at hcond
            obtain ⟨c1, c2, c3⟩ := hcond
            obtain ⟨B, _, hB⟩ := bound_ex ks fun k hk i hi => (c3 k hk).2 i hi
            refine .inr ⟨(ks.headD []).length, B, c2, a, vs, by rw [ea], by rw [O.hK]; exact hs, by rw [hl]; exact c1, fun x hx => ?_, fun ys p hp hso hn => ?_⟩
            · obtain ⟨n, hn, t⟩ := hm x hx
              exact ⟨n, by rw [O.hK]; exact t, (c3 n hn).1, hB n hn⟩
            · obtain ⟨es, p1, r1⟩ := reps_perm hp rs
              obtain ⟨ks', p2, e⟩ := perm_keys p1
              subst e
              rw [O.hK] at hso
              have so := keys_pair r1 hso
              have so2 : ks'.Pairwise (lexLe · · = true) := so.imp_of_mem fun {n m} hn hm h => by
                have n1 := p2.mem_iff.mp hn
                have m1 := p2.mem_iff.mp hm
                exact code_lex ((c3 n n1).1.trans (c3 m m1).1.symm) (hB n n1) (hB m m1) h
              rw [← sortT_eq p2 so2] at q
              exact mkL_ok S r1 q hn
          · cases he
        · cases he
    · exact q.elim
  · exact q.elim
end
end G

namespace G
open PySem L2
section
variable {P : Program} {w : World} {mg : Str → Option Value} {base h : Heap} {g : GC} {K : PySem.W.Frag}
theorem glob_fn {x : Str} (G₀ : Glob g mg x (.fn x)) : mg x = some (.ref (g.ga x)) := by
  obtain ⟨u, v, h1, h2, h3⟩ := G₀.is
  have e : v = .ref (g.ga x) := h3 ⟨[], []⟩ (fun _ => none)
  subst e
  obtain rfl : u = Value.ref (g.ga x) := h2
  exact h1
theorem globFn_mk {x : Str} {C : Addr} (X : K.In h) (G₀ : h.Ns mainGlobals mg) (hK : g.K = K) (hC : g.ga x = C) (a : PySem.W.nsIn K mainGlobals x = some (some (.ref C))) : Glob g mg x (.fn x) := by
  subst hC
  exact ⟨_, .ref (g.ga x), PySem.W.mg_of X G₀ a, rfl, fun _ _ => rfl⟩
theorem ft2 {x1 x2 : Str} {n j1 j2 j : Nat} {f1 f2 : List D → Store → R D} (F1 : FnD P w mg base g j1 x1 n f1) (m1 : Glob g mg x1 (.fn x1)) (F2 : FnD P w mg base g j2 x2 n f2) (m2 : Glob g mg x2 (.fn x2)) (h1 : j1 ≤ j) (h2 : j2 ≤ j) :
    ∀ x f, ([(x1, f1), (x2, f2)] : List (Str × (List D → Store → R D))).lookup x = some f → FnD P w mg base g j x n f ∧ mg x = some (.ref (g.ga x)) := by
  intro x f e
  rcases List.mem_cons.mp (lookup_mem e) with q | q
  · cases q
    exact ⟨F1.mono h1, glob_fn m1⟩
  · cases List.mem_singleton.mp q
    exact ⟨F2.mono h2, glob_fn m2⟩
end
end G

namespace G
open PySem L2 PyProof.Rows
/-! ### ranges with a step; list(range) -/
def rangeC (i c : Int) (n : Nat) : List D := (List.range n).map fun t => .int (i + (t : Nat) * c)
def rgOk (i j c : Int) : Bool := decide (c ≠ 0) && decide (c.natAbs < 1073741824) && Builtin.Range.small i j c && decide (0 ≤ Builtin.Range.rangeSize i j c)
theorem rgOk_ok {i j c : Int} (h : rgOk i j c = true) : RgC i j c (Builtin.Range.rangeSize i j c).toNat := by
  unfold rgOk at h
  rw [Bool.and_eq_true, Bool.and_eq_true, Bool.and_eq_true, decide_eq_true_eq, decide_eq_true_eq, decide_eq_true_eq] at h
  exact ⟨h.1.1.1, h.1.1.2, h.1.2, (Int.toNat_of_nonneg h.2).symm⟩
def rng3 (d e u : D) (st : Store) : R (List D) := match d, e, u with
  | .int i, .int j, .int c => if rgOk i j c = true ∧ (Builtin.Range.rangeSize i j c).toNat ≤ 16777216 then .ok (rangeC i c (Builtin.Range.rangeSize i j c).toNat) st else .bad
  | _, _, _ => .bad
def dRng3 (f h q : DE) : DI := fun env st => (f env st).bind fun d st => (h env st).bind fun e st => (q env st).bind fun u st => (rng3 d e u st).bind fun ds st => .ok (ds, none) st
section
variable {X : Cx} {g : GC} {W : WX} {k : Nat} {pos : Pos} {tg : Expr}
theorem itc_ok {lo c : Int} {n : Nat} {μ : Mp} {H : Hp} : ItOk g (Itc lo c n) (rangeC lo c n) none μ H := by
  intro μ' H' st' L S _
  refine ⟨fun i d hd => ?_, by show n ≤ (rangeC lo c n).length; unfold rangeC; simp⟩
  unfold rangeC at hd
  rw [List.getElem?_map] at hd
  by_cases hi' : i < n
  · rw [List.getElem?_range hi'] at hd
    cases hd
    refine ⟨hi', fun x H'' y => ?_⟩
    obtain ⟨e, y⟩ := y
    subst e y
    exact ⟨Le.refl, S, rfl⟩
  · rw [List.getElem?_eq_none (by simpa using hi')] at hd
    cases hd
theorem rng3_inv {d e u : D} {st : Store} {μ : Mp} {H : Hp} {σ : L2.St} {β : Type} {P : Mp → Hp → β → Store → Prop} {kk : List D → Store → R β} (h : Post g W σ μ H ((rng3 d e u st).bind kk) P) : ∃ i j c, d = .int i ∧ e = .int j ∧ u = .int c ∧ rgOk i j c = true ∧ (Builtin.Range.rangeSize i j c).toNat ≤ 16777216 ∧ Post g W σ μ H (kk (rangeC i c (Builtin.Range.rangeSize i j c).toNat) st) P := by
  unfold rng3 at h
  split at h
  · split at h
    · rename_i i j c hj
      exact ⟨i, j, c, rfl, rfl, rfl, hj.1, hj.2, h⟩
    · exact h.elim
  · exact h.elim
theorem i_range3 {a b c : Expr} {f h q : DE} {p : Pos} (hm : X.mg "range" = none) (ha : PD X g W a f) (hb : PD X g W b h) (hc : PD X g W c q) (hg : Gl X "range" := by rfl)
    (hs : starEach [a, b, c] X.env = (false, eval a X.env) :: starEach [b, c] X.env := by rfl) (hs2 : starEach [b, c] X.env = (false, eval b X.env) :: starEach [c] X.env := by rfl) (hs3 : starEach [c] X.env = (false, eval c X.env) :: starEach [] X.env := by rfl) (hpl : (backTo pos (starEach [b, c] X.env)).any (·.1) = false := by rfl) :
    PID X g W tg (.Call (.Name "range" p) [a, b, c] [] pos) (dRng3 f h q) :=
  PI.imp (pi_range3 hg hm (L2.pa_cons ha (L2.pa_cons hb (L2.pa_cons hc L2.pa_nil hs3) hs2) hs) hs hpl) fun σ H R₀ ⟨μ, env, st, S, E, q⟩ => by
    refine bindE S E q fun μ1 H1 d st1 v L1 S1 E1 r1 h1 => ?_
    refine bindE S1 E1 h1 fun μ2 H2 d2 st2 v2 L2 S2 E2 r2 h2 => ?_
    refine bindE S2 E2 h2 fun μ3 H3 d3 st3 v3 L3 S3 E3 r3 h3 => ?_
    have r1 := (r1.le L2).le L3
    have r2 := r2.le L3
    obtain ⟨i, j, c, rfl, rfl, rfl, hj, hz, h3⟩ := rng3_inv h3
    exact ⟨i, j, c, _, by rw [show v = V.int i from r1, show v2 = V.int j from r2, show v3 = V.int c from r3], rgOk_ok hj, h3.here S3 _ itc_ok⟩
/-- an expression that makes a range -/
def PRg3 (X : Cx) (e : Expr) (t : L2.St → Hp → (Int → Int → Int → Hp → Prop) → Prop) : Prop :=
  ∀ (pins : List (Addr × Obj)) (s : Shared) (σ : L2.St) (H : Hp) (Q : Int → Int → Int → Hp → Prop), Inv X pins σ H s → t σ H Q →
    wpAny (model X.prog X.w) X.A (eval e X.env) (fun x s' => ∃ r a b c t u v H', x = .ref r ∧ IsRange s'.heap r a b c t u v ∧ Inv X pins σ H' s' ∧ Q a b c H') X.xe s
def tRg3 (ta : TA) : L2.St → Hp → (Int → Int → Int → Hp → Prop) → Prop := fun σ H Q => ta σ H fun vs H1 => ∃ i j c, vs = [.int i, .int j, .int c] ∧ c ≠ 0 ∧ c.natAbs < 1073741824 ∧ Q i j c H1
def tRg2' (ta : TA) : L2.St → Hp → (Int → Int → Int → Hp → Prop) → Prop := fun σ H Q => ta σ H fun vs H1 => ∃ i j, vs = [.int i, .int j] ∧ Q i j 1 H1
theorem prg_3 {a b c : Expr} {ta : TA} {p pos : Pos} (hg : Gl X "range") (hm : X.mg "range" = none) (ha : PA X [a, b, c] ta)
    (hs : starEach [a, b, c] X.env = (false, eval a X.env) :: starEach [b, c] X.env := by rfl) (hpl : (backTo pos (starEach [b, c] X.env)).any (·.1) = false := by rfl) :
    PRg3 X (.Call (.Name "range" p) [a, b, c] [] pos) (tRg3 ta) := by
  intro pins s σ H Q I h
  refine Call_ (ld_blt I hg hm boot_range (PyProof.Rows.callWith_type1 (thn (ha.run pos pins s σ H _ I h) fun us s1 ⟨vs, H1, I1, r1, q1⟩ => ?_) hs hpl))
  obtain ⟨i, j, k, e, c0, c1, q⟩ := q1
  subst e
  cases r1 with
  | cons r rr =>
    cases rr with
    | cons r' rr =>
      cases rr with
      | cons r'' rr =>
        cases rr
        obtain ⟨t, rfl⟩ := r
        obtain ⟨t', rfl⟩ := r'
        obtain ⟨t'', rfl⟩ := r''
        exact call_range_3 c0 ⟨_, i, j, k, _, _, _, H1, rfl, IsRange.new _ _ _ _ _ _ _, I1.kept (t' := s1.toks) fun b o e => Heap.get?_push_of_some _ e, q⟩ (.inl (PyProof.noPylong_small c1))
theorem prg_2' {a b : Expr} {ta : TA} {p pos : Pos} (hg : Gl X "range") (hm : X.mg "range" = none) (ha : PA X [a, b] ta)
    (hs : starEach [a, b] X.env = (false, eval a X.env) :: starEach [b] X.env := by rfl) (hpl : (backTo pos (starEach [b] X.env)).any (·.1) = false := by rfl) :
    PRg3 X (.Call (.Name "range" p) [a, b] [] pos) (tRg2' ta) := by
  intro pins s σ H Q I h
  refine Call_ (ld_blt I hg hm boot_range (PyProof.Rows.callWith_type1 (thn (ha.run pos pins s σ H _ I h) fun us s1 ⟨vs, H1, I1, r1, q1⟩ => ?_) hs hpl))
  obtain ⟨i, j, e, q⟩ := q1
  subst e
  cases r1 with
  | cons r rr =>
    cases rr with
    | cons r' rr =>
      cases rr
      obtain ⟨t, rfl⟩ := r
      obtain ⟨t', rfl⟩ := r'
      exact call_range_2 ⟨_, i, j, 1, _, _, _, H1, rfl, IsRange.new _ _ _ _ _ _ _, I1.kept fun b o e => Heap.get?_push_of_some _ e, q⟩
def rgVC (i c : Int) (n : Nat) : List V := (List.range n).map fun t => V.int (i + (t : Nat) * c)
def tLstRg3 (te : L2.St → Hp → (Int → Int → Int → Hp → Prop) → Prop) : TE := fun σ H Q => te σ H fun i j c H1 => ∃ n, Builtin.Range.small i j c = true ∧ Builtin.Range.rangeSize i j c = (n : Nat) ∧ n ≤ 16777216 ∧ ∀ q, H1 q = none → Q (.ref q) (upd H1 q (.lst (rgVC i c n)))
theorem pe_listRg3 {e : Expr} {te : L2.St → Hp → (Int → Int → Int → Hp → Prop) → Prop} {p pos : Pos} (hc : X.calm = true) (hg : Gl X "list") (hm : X.mg "list" = none) (he : PRg3 X e te) (na : starEach [e] X.env = (false, eval e X.env) :: starEach [] X.env := by rfl) : PE X (.Call (.Name "list" p) [e] [] pos) (tLstRg3 te) := by
  refine ⟨fun pins s σ H Q I h => ?_⟩
  refine Call_ (ld_blt I hg hm boot_list (PyProof.Rows.callWith_type1 (args_cons (thn (he pins s σ H _ I h) fun x s1 ⟨r, a, b, c, t, u, v, H1, ex, hr, I1, ok, q⟩ => args_nil ?_) na) na))
  subst ex
  obtain ⟨b1, b2, b5, q⟩ := q
  refine call_list_range (n := ok) (I1.ok.hd hc) hr b1 b2 b5 fun h' tk acc c' hk e' hi => ?_
  have hsz : acc.toList.length = ok := by rw [Array.length_toList]; exact hi.1
  refine ⟨.ref s1.heap.objs.size, upd H1 s1.heap.objs.size (.lst (rgVC a c ok)), I1.laid hk (Nat.le_refl _) (show ObjOk X.prog X.w _ _ _ (.lst (rgVC a c ok)) from ⟨?_, acc.toList, c', ?_, ?_⟩), rfl, q _ (I1.hok.fresh (Nat.le_refl _))⟩
  · unfold rgVC; rw [List.length_map, List.length_range, sizeLine_eq]; omega
  · unfold rgVC
    rw [← hsz]
    refine vals_of_get acc.toList _ fun j u hj => ?_
    obtain ⟨t, rfl⟩ := hi.2 j u (by rw [← hj, Array.getElem?_toList])
    exact ⟨t, rfl⟩
  · rw [Array.toArray_toList]; exact e'
theorem reps_rng {μ : Mp} {H : Hp} (i c : Int) : ∀ n : Nat, Reps g μ H (rangeC i c n) (rgVC i c n) := by
  intro n
  unfold rangeC rgVC
  generalize List.range n = l
  induction l with
  | nil => rfl
  | cons x l ih => exact ⟨_, _, rfl, rfl, ih⟩
def dListR3 (b : Bool) (f h q : DE) : DE := fun env st => (f env st).bind fun d st => (h env st).bind fun e st => (q env st).bind fun u st => (rng3 d e u st).bind fun ds st => mkL b ds st
def dListR2 (b : Bool) (f h : DE) : DE := fun env st => (f env st).bind fun d st => (h env st).bind fun e st => (rng3 d e (.int 1) st).bind fun ds st => mkL b ds st
theorem pd_listR3 {a b c : Expr} {f h q : DE} {lf : Bool} {p p2 pos2 : Pos} (O : Ok X g W k) (hm : X.mg "range" = none) (hml : X.mg "list" = none) (ha : PD X g W a f) (hb : PD X g W b h) (hc : PD X g W c q) (hg : Gl X "range" := by rfl) (hgl : Gl X "list" := by rfl)
    (hs : starEach [a, b, c] X.env = (false, eval a X.env) :: starEach [b, c] X.env := by rfl) (hs2 : starEach [b, c] X.env = (false, eval b X.env) :: starEach [c] X.env := by rfl) (hs3 : starEach [c] X.env = (false, eval c X.env) :: starEach [] X.env := by rfl) (hpl : (backTo pos2 (starEach [b, c] X.env)).any (·.1) = false := by rfl)
    (na : starEach [.Call (.Name "range" p2) [a, b, c] [] pos2] X.env = (false, eval (.Call (.Name "range" p2) [a, b, c] [] pos2) X.env) :: starEach [] X.env := by rfl) :
    PD X g W (.Call (.Name "list" p) [.Call (.Name "range" p2) [a, b, c] [] pos2] [] pos) (dListR3 lf f h q) :=
  PE.imp (pe_listRg3 O.calm hgl hml (prg_3 hg hm (L2.pa_cons ha (L2.pa_cons hb (L2.pa_cons hc L2.pa_nil hs3) hs2) hs) hs hpl) na) fun σ H Q ⟨μ, env, st, S, E, q⟩ => by
    refine bindE S E q fun μ1 H1 d st1 v L1 S1 E1 r1 h1 => ?_
    refine bindE S1 E1 h1 fun μ2 H2 d2 st2 v2 L2 S2 E2 r2 h2 => ?_
    refine bindE S2 E2 h2 fun μ3 H3 d3 st3 v3 L3 S3 E3 r3 h3 => ?_
    have r1 := (r1.le L2).le L3
    have r2 := r2.le L3
    obtain ⟨i, j, c, rfl, rfl, rfl, hj, hz, h3⟩ := rng3_inv h3
    obtain ⟨z1, z2, z3, z4⟩ := rgOk_ok hj
    exact ⟨i, j, c, by rw [show v = V.int i from r1, show v2 = V.int j from r2, show v3 = V.int c from r3], z1, z2, _, z3, z4, hz, fun q hq => mkL_ok S3 (reps_rng _ _ _) h3 hq⟩
theorem pd_listR2 {a b : Expr} {f h : DE} {lf : Bool} {p p2 pos2 : Pos} (O : Ok X g W k) (hm : X.mg "range" = none) (hml : X.mg "list" = none) (ha : PD X g W a f) (hb : PD X g W b h) (hg : Gl X "range" := by rfl) (hgl : Gl X "list" := by rfl)
    (hs : starEach [a, b] X.env = (false, eval a X.env) :: starEach [b] X.env := by rfl) (hs2 : starEach [b] X.env = (false, eval b X.env) :: starEach [] X.env := by rfl) (hpl : (backTo pos2 (starEach [b] X.env)).any (·.1) = false := by rfl)
    (na : starEach [.Call (.Name "range" p2) [a, b] [] pos2] X.env = (false, eval (.Call (.Name "range" p2) [a, b] [] pos2) X.env) :: starEach [] X.env := by rfl) :
    PD X g W (.Call (.Name "list" p) [.Call (.Name "range" p2) [a, b] [] pos2] [] pos) (dListR2 lf f h) :=
  PE.imp (pe_listRg3 O.calm hgl hml (prg_2' hg hm (L2.pa_cons ha (L2.pa_cons hb L2.pa_nil hs2) hs) hs hpl) na) fun σ H Q ⟨μ, env, st, S, E, q⟩ => by
    refine bindE S E q fun μ1 H1 d st1 v L1 S1 E1 r1 h1 => ?_
    refine bindE S1 E1 h1 fun μ2 H2 d2 st2 v2 L2 S2 E2 r2 h2 => ?_
    have r1 := r1.le L2
    obtain ⟨i, j, c, rfl, rfl, e, hj, hz, h3⟩ := rng3_inv h2
    cases e
    obtain ⟨z1, z2, z3, z4⟩ := rgOk_ok hj
    exact ⟨i, j, by rw [show v = V.int i from r1, show v2 = V.int j from r2], _, z3, z4, hz, fun q hq => mkL_ok S2 (reps_rng _ _ _) h3 hq⟩
/-! ### enumerate -/
def enumD : Nat → List D → List D
  | _, [] => []
  | n, d :: ds => .tup [.int (n : Nat), d] :: enumD (n + 1) ds
def dEnum (f : DE) : DI := fun env st => (f env st).bind fun d st => match d with
  | .tup _ => .bad
  | d => match gdOf st d with
    | some p => .ok (enumD 0 p.1, p.2) st
    | none => .bad
theorem enum_get : ∀ (ds : List D) (n i : Nat) (d : D), (enumD n ds)[i]? = some d → ∃ e, ds[i]? = some e ∧ d = .tup [.int ((n + i : Nat) : Int), e]
  | [], n, i, d, h => by simp [enumD] at h
  | x :: ds, n, 0, d, h => by
    simp [enumD] at h
    exact ⟨x, rfl, h.symm⟩
  | x :: ds, n, i + 1, d, h => by
    obtain ⟨e, h1, h2⟩ := enum_get ds (n + 1) i d (by simpa [enumD] using h)
    exact ⟨e, by simpa using h1, by rw [h2, show n + 1 + i = n + (i + 1) by omega]⟩
theorem enum_len : ∀ (ds : List D) (n : Nat), (enumD n ds).length = ds.length
  | [], n => rfl
  | x :: ds, n => by simp [enumD, enum_len ds]
theorem ite_ok {J : It} {K : PySem.W.Frag} {a : Addr} (e : J = Ite K a) {ds : List D} {gd : Gd} {μ : Mp} {H : Hp}
    (h : ∀ μ' H' st', Lw μ H μ' H' → RelS g μ' H' st' → gdOk gd st' = true → ∃ vs, SqL K H' a vs ∧ Reps g μ' H' ds vs) : ItOk g J (enumD 0 ds) gd μ H := by
  subst e
  intro μ' H' st' L S hg
  obtain ⟨vs, h1, h2⟩ := h μ' H' st' L S hg
  refine ⟨fun i d hd => ?_, ⟨vs, h1, by rw [enum_len, h2.len]; exact Nat.le_refl _⟩⟩
  obtain ⟨e, he, rfl⟩ := enum_get ds 0 i d hd
  obtain ⟨v, h3, h4⟩ := h2.get he
  refine ⟨⟨vs, v, h1, h3⟩, fun x H'' y => ?_⟩
  obtain ⟨T, w, e1, hT, e2, y⟩ := y
  have := y vs h1
  rw [h3] at this
  cases this
  subst e1 e2
  rw [Nat.zero_add]
  exact ⟨le_new S hT, S.frz hT, ⟨T, _, rfl, .inl ⟨S.out hT, .inl upd_same⟩, _, _, rfl, rfl, v, [], rfl, h4.le (le_new S hT), rfl⟩⟩
theorem i_enum {e : Expr} {f : DE} {p tpos : Pos} {elts : List Expr} {kk : Nat} (O : Ok X g W k) (hm : X.mg "enumerate" = none) (he : PD X g W e f) (hg : Gl X "enumerate" := by rfl) (hs : starEach [e] X.env = [(false, eval e X.env)] := by rfl) :
    PID X g W (.Tuple elts kk tpos) (.Call (.Name "enumerate" p) [e] [] pos) (dEnum f) :=
  PI.imp (pi_enum hg hm (L2.pa_cons he L2.pa_nil hs) hs) fun σ H R ⟨μ, env, st, S, E, q⟩ => by
    refine bindE S E q fun μ1 H1 d st1 v L1 S1 E1 r1 h1 => ?_
    rw [O.hK]
    cases d with
    | lst ds =>
      obtain ⟨a, vs, e, h2, r2⟩ := seqL_ok S1 (ds := ds) r1 rfl
      refine ⟨a, vs, by rw [e], h2, h1.here S1 _ (ite_ok rfl fun μ' H' st' L S _ => ?_)⟩
      obtain ⟨a', vs', e', h3, r3⟩ := seqL_ok S (ds := ds) (r1.lw L) rfl
      rw [e] at e'
      cases e'
      exact ⟨vs', h3, r3⟩
    | scr ns =>
      obtain ⟨a, vs, e, h2, r2⟩ := seqL_ok S1 (ds := ns.map .int) r1 rfl
      refine ⟨a, vs, by rw [e], h2, h1.here S1 _ (ite_ok rfl fun μ' H' st' L S _ => ?_)⟩
      obtain ⟨a', vs', e', h3, r3⟩ := seqL_ok S (ds := ns.map .int) (r1.lw L) rfl
      rw [e] at e'
      cases e'
      exact ⟨vs', h3, r3⟩
    | ref n =>
      cases hn : lstAt st1 n with
      | none => simp only [gdOf, hn] at h1; exact h1.elim
      | some ds =>
        simp only [gdOf, hn] at h1
        obtain ⟨a, vs, e, h2, r2⟩ := seqL_ok S1 (ds := ds) r1 hn
        refine ⟨a, vs, by rw [e], h2, h1.here S1 _ (ite_ok rfl fun μ' H' st' L S hg => ?_)⟩
        have hs : lstAt st' n = some ds := by
          have hg : (match lstAt st' n with
            | some es => D.sames es ds
            | none => false) = true := hg
          cases q : lstAt st' n with
          | none => rw [q] at hg; cases hg
          | some es => rw [q] at hg; rw [sames_eq _ _ hg]
        obtain ⟨a', vs', e', h3, r3⟩ := seqL_ok S (ds := ds) (r1.lw L) hs
        rw [e] at e'
        cases e'
        exact ⟨vs', h3, r3⟩
    | tup ds => exact h1.elim
    | _ => exact h1.elim
end
end G

namespace G
open PySem L2 PyProof.Rows
/-! ### xs += ys, both lists -/
def aExt : D → D → Store → R D
  | .ref n, y, st => match lstAt st n, seqR st y with
    | some xs, some ys => if xs.length + ys.length ≤ 16777216 then .ok (.ref n) (st.set n (.lst (xs ++ ys))) else .bad
    | _, _ => .bad
  | _, _, _ => .bad
/-- dicts with int and text keys -/
def keyD : D → Option Key
  | .int i => some (.inl i)
  | .str x => some (.inr x)
  | _ => none
def replD (k : Key) (x : D) : List Key → List D → List D
  | k' :: kk, d :: ds => (if k' = k then x else d) :: replD k x kk ds
  | _, _ => []
def putKs (kk : List Key) (k : Key) : List Key := if (kk.any fun x => decide (x = k)) = true then kk else kk ++ [k]
def putDs (kk : List Key) (vs : List D) (k : Key) (x : D) : List D := if (kk.any fun x => decide (x = k)) = true then replD k x kk vs else vs ++ [x]
def dcD (gt : DG) (ft : DT) (fk fe : DE) (gd : Gd) : List D → Env → Store → List Key → List D → R D
  | [], _, st, kk, vs => if gdOk gd st = true then .ok (.dic (kk.map .k) vs) st else .bad
  | d :: ds, env, st, kk, vs => if gdOk gd st = true then (match gt d env with
    | none => .bad
    | some env1 => (ft env1 st).b fun b st => if b = true then (fk env1 st).b fun y st => (fe env1 st).b fun x st => (match keyD y with
        | some k => dcD gt ft fk fe gd ds env st (putKs kk k) (putDs kk vs k x)
        | none => .bad) else dcD gt ft fk fe gd ds env st kk vs) else .bad
def dDc (fi : DI) (gt : DG) (ft : DT) (fk fe : DE) (vs : List Nat) : DE := fun env st => (fi env st).bind fun p st => if p.1.length ≤ 16777216 then dcD gt ft fk fe p.2 p.1 (wipeE env vs) st [] [] else .bad
section
variable {X : Cx} {g : GC} {W : WX} {k : Nat} {pos : Pos} {μ : Mp} {H : Hp}
theorem rvExt : RV g W (fun x y H Q => rExt2 x y H Q) aExt := fun σ μ H st x y v u Q S rx ry h => by
  unfold aExt at h
  split at h
  · rename_i n
    split at h
    · rename_i xs ys e1 e2
      split at h
      · rename_i hl
        obtain ⟨a, ea, ha⟩ := rx
        obtain ⟨vs, h1, r1⟩ := S.at_ n a _ ha (lstAt_eq e1)
        obtain ⟨b, ws, eb, h2, r2⟩ := seqR_ok S ry e2
        have hm := List.mem_of_getElem? ha
        have L5 := le_set (o := .lst (vs ++ ws)) S hm
        refine ⟨a, b, vs, ws, ea, eb, h1, h2, ?_, ?_⟩
        · rw [← r1.len, ← r2.len, sizeLine_eq]; omega
        · exact h μ _ L5 (S.set ha ⟨_, upd_same, (r1.append r2).le L5⟩) _ ⟨a, rfl, ha⟩
      · exact h.elim
    · exact h.elim
  · exact h.elim
theorem s_ext {i : Nat} {x : Str} {e : Expr} {f : DE} {pos' : Pos} (O : Ok X g W k) (he : PD X g W e f) (hi : X.N[i]? = some x := by rfl) (hx : Loc X.env.scope x := by first | exact .inl rfl | exact .inr rfl)
    (hf : X.fn x = true ∨ X.env.scope.names.lookup x = some .local := by first | exact .inl rfl | exact .inr rfl) : PSD X g W (.AugAssign (.Name x pos') .Add e pos) (dAug i aExt f) := s_aug O he iop_ext rvExt hi hx hf
theorem keyD_ok {d : D} {v : V} {k : Key} (r : Rep g μ H d v) (h : keyD d = some k) : v = kV k := by
  cases d with
  | int i => cases h; exact r
  | str x => cases h; exact r
  | _ => cases h
theorem keysK_map : ∀ kk : List Key, keysK (kk.map .k) = some kk
  | [] => rfl
  | k :: kk => by
    show (keysK (kk.map .k)).map (k :: ·) = _
    rw [keysK_map kk]
    rfl
theorem put_keys (kk : List Key) : ∀ (vs : List V) (k : Key) (v : V), kk.length = vs.length → ∃ ws : List V, putK (kk.zip vs) k v = (putKs kk k).zip ws ∧ ws.length = (putKs kk k).length ∧ (∀ (ds : List D) (d : D) (μ : Mp) (H : Hp), Reps g μ H ds vs → Rep g μ H d v → Reps g μ H (putDs kk ds k d) ws) := by
  have repl : ∀ (kk : List Key) (vs : List V) (k : Key) (v : V), kk.length = vs.length → ∃ ws : List V, (kk.zip vs).map (fun kv => if kv.1 = k then (kv.1, v) else kv) = kk.zip ws ∧ ws.length = kk.length ∧ (∀ (ds : List D) (d : D) (μ : Mp) (H : Hp), Reps g μ H ds vs → Rep g μ H d v → Reps g μ H (replD k d kk ds) ws) := by
    intro kk
    induction kk with
    | nil => intro vs k v hl; exact ⟨[], rfl, rfl, fun ds d μ H r1 r2 => by cases ds <;> rfl⟩
    | cons k' kk ih =>
      intro vs k v hl
      cases vs with
      | nil => simp at hl
      | cons w vs =>
        obtain ⟨ws, h1, h2, h3⟩ := ih vs k v (by simpa using hl)
        refine ⟨(if k' = k then v else w) :: ws, ?_, by simp [h2], fun ds d μ H r1 r2 => ?_⟩
        · rw [List.zip_cons_cons, List.map_cons, h1, List.zip_cons_cons]
          by_cases e : k' = k <;> simp [e]
        · cases ds with
          | nil => cases (show _ = [] from r1)
          | cons d' ds =>
            obtain ⟨v0, vr, e, r3, r4⟩ := r1
            cases e
            refine ⟨_, _, rfl, ?_, h3 ds d μ H r4 r2⟩
            by_cases e : k' = k
            · rw [if_pos e, if_pos e]; exact r2
            · rw [if_neg e, if_neg e]; exact r3
  intro vs k v hl
  have any : ((kk.zip vs).any fun kv => decide (kv.1 = k)) = (kk.any fun x => decide (x = k)) := by
    have : kk = (kk.zip vs).map (·.1) := by rw [List.map_fst_zip (by omega)]
    conv => rhs; rw [this]
    rw [List.any_map]
    rfl
  unfold putK putKs putDs
  rw [any]
  by_cases e : (kk.any fun x => decide (x = k)) = true
  · rw [if_pos e, if_pos e]
    simp only [e, if_true]
    exact repl kk vs k v hl
  · rw [if_neg e, if_neg e]
    simp only [e]
    refine ⟨vs ++ [v], ?_, by simp [hl], fun ds d μ H r1 r2 => r1.append ⟨v, [], rfl, r2, rfl⟩⟩
    rw [List.zip_append hl]
    rfl
theorem putKs_len (kk : List Key) (k : Key) : (putKs kk k).length ≤ kk.length + 1 := by
  unfold putKs
  split
  · omega
  · simp
theorem dc_ok {is vs : List Nat} {gt : DG} {ft : DT} {fk fe : DE} {σ : L2.St} {Q : VK} {μ1 : Mp} {H1 : Hp} {env : Env} {ds : List D} {gd : Gd} {st1 : Store} {J : It} (S1 : RelS g μ1 H1 st1) (E1 : RelE g μ1 H1 env σ) (hJ : ItOk g J ds gd μ1 H1) (hv : ∀ i ∈ is, i ∈ vs) (hl : ds.length ≤ 16777216)
    (h1 : Post g W σ μ1 H1 (dcD gt ft fk fe gd ds (wipeE env vs) st1 [] []) (VP g Q)) (D₀ : Addr) (hD : H1 D₀ = none) :
    ∃ Wv : Nat → Nat → Hp → Prop, (∃ m, Wv 0 m (upd H1 D₀ (.dK []))) ∧ ∀ i m H, Wv i m H →
      (J.stop i H ∧ Q (.ref D₀) H) ∨ (J.go i H ∧ ∃ Nx : Hp → Prop, (∀ H', Nx H' → ∃ m', m' < m ∧ Wv (i + 1) m' H') ∧ ∀ x H', J.yld i H x H' → tDG g is gt x (L2.wipe σ vs) H' fun σ2 H2 => L2.wipe σ2 vs = L2.wipe σ vs ∧ tDT g W0 ft σ2 H2 fun b H3 =>
        if b = true then tDE g W0 fk σ2 H3 fun y H4 => tDE g W0 fe σ2 H4 fun z H5 => ∃ kvs k, y = kV k ∧ H5 D₀ = some (.dK kvs) ∧ kvs.length < sizeLine ∧ Nx (upd H5 D₀ (.dK (putK kvs k z))) else Nx H3) := by
  have nD : ∀ a ∈ μ1.h, a ≠ D₀ := fun a ha => S1.hne hD ha
  have nD' : D₀ ∉ μ1.h := fun z => nD _ z rfl
  obtain ⟨m1, h1'⟩ := μ1
  refine ⟨fun i m H => m = ds.length - i ∧ i ≤ ds.length ∧ ∃ (μm : List Addr) (st : Store) (kk : List Key) (acc : List D) (vacc : List V), Le ⟨m1, h1'⟩ H1 ⟨μm, h1'⟩ H ∧ RelS g ⟨μm, D₀ :: h1'⟩ H st ∧ RelE g ⟨μm, D₀ :: h1'⟩ H env σ ∧ ItOk g J ds gd ⟨μm, D₀ :: h1'⟩ H ∧ H D₀ = some (.dK (kk.zip vacc)) ∧ kk.length = vacc.length ∧ Reps g ⟨μm, D₀ :: h1'⟩ H acc vacc ∧ kk.length ≤ i ∧
      Post g W σ ⟨m1, h1'⟩ H1 (dcD gt ft fk fe gd (ds.drop i) (wipeE env vs) st kk acc) (VP g Q),
    ⟨ds.length, by simp, Nat.zero_le _, m1, st1, [], [], [], le_new S1 hD, S1.hideV (.k []) hD, E1.lw (lw_hide S1 hD), hJ.le (lw_hide S1 hD), upd_same, rfl, rfl, Nat.zero_le _, h1⟩, ?_⟩
  rintro i m H ⟨rfl, hi, μm, st, kk, acc, vacc, L, S, E, hJ, hH, hkl, ra, hal, q⟩
  by_cases hlt : i < ds.length
  · rw [List.drop_eq_getElem_cons hlt] at q
    have q : Post g W σ ⟨m1, h1'⟩ H1 (if gdOk gd st = true then (match gt ds[i] (wipeE env vs) with
      | none => R.bad
      | some env1 => (ft env1 st).b fun b st => if b = true then (fk env1 st).b fun y st => (fe env1 st).b fun x st => (match keyD y with
        | some k => dcD gt ft fk fe gd (ds.drop (i + 1)) (wipeE env vs) st (putKs kk k) (putDs kk acc k x)
        | none => .bad) else dcD gt ft fk fe gd (ds.drop (i + 1)) (wipeE env vs) st kk acc) else R.bad) (VP g Q) := q
    split at q
    · rename_i hgd
      obtain ⟨hgo, hy⟩ := (hJ ⟨μm, D₀ :: h1'⟩ H st Lw.refl S hgd).1 i ds[i] (List.getElem?_eq_getElem hlt)
      refine .inr ⟨hgo, fun H' => ds.length - (i + 1) = ds.length - (i + 1) ∧ i + 1 ≤ ds.length ∧ ∃ (μm : List Addr) (st : Store) (kk : List Key) (acc : List D) (vacc : List V), Le ⟨m1, h1'⟩ H1 ⟨μm, h1'⟩ H' ∧ RelS g ⟨μm, D₀ :: h1'⟩ H' st ∧ RelE g ⟨μm, D₀ :: h1'⟩ H' env σ ∧ ItOk g J ds gd ⟨μm, D₀ :: h1'⟩ H' ∧ H' D₀ = some (.dK (kk.zip vacc)) ∧ kk.length = vacc.length ∧ Reps g ⟨μm, D₀ :: h1'⟩ H' acc vacc ∧ kk.length ≤ i + 1 ∧
        Post g W σ ⟨m1, h1'⟩ H1 (dcD gt ft fk fe gd (ds.drop (i + 1)) (wipeE env vs) st kk acc) (VP g Q), fun H' w => ⟨ds.length - (i + 1), by omega, w⟩, fun x H' y => ?_⟩
      obtain ⟨Lb, S2, r2⟩ := hy x H' y
      cases e : gt ds[i] (wipeE env vs) with
      | none => rw [e] at q; exact q.elim
      | some env2 =>
        rw [e] at q
        refine ⟨⟨μm, D₀ :: h1'⟩, wipeE env vs, st, ds[i], S2, (E.le Lb).wipe vs, r2, env2, e, fun σ2 E2 bt => ⟨bt.wipe hv, ⟨μm, D₀ :: h1'⟩, env2, st, S2, E2, ?_⟩⟩
        have q : Post g W σ ⟨m1, h1'⟩ H1 ((ft env2 st).b fun b st => if b = true then (fk env2 st).b fun y st => (fe env2 st).b fun x st => (match keyD y with
          | some k => dcD gt ft fk fe gd (ds.drop (i + 1)) (wipeE env vs) st (putKs kk k) (putDs kk acc k x)
          | none => .bad) else dcD gt ft fk fe gd (ds.drop (i + 1)) (wipeE env vs) st kk acc) (VP g Q) := q
        generalize ft env2 st = rt at q ⊢
        cases rt with
        | ex c st3 => exact q.elim
        | bad => exact q.elim
        | ok bb st3 =>
          intro μ3 H3 L3 S3
          obtain ⟨m3, h3⟩ := μ3
          obtain rfl : h3 = D₀ :: h1' := L3.hh
          have L23 := Lb.trans L3
          cases bb with
          | false =>
            rw [if_neg Bool.false_ne_true]
            exact ⟨rfl, hlt, m3, st3, kk, acc, vacc, le_over rfl hD L L23.toLw (fun a ha => L23.hk a (List.mem_cons_of_mem _ ha)), S3, E.le L23, hJ.le L23.toLw, (L23.hk D₀ List.mem_cons_self).trans hH, hkl, ra.le L23, by omega, q⟩
          | true =>
            rw [if_pos rfl]
            refine ⟨⟨m3, D₀ :: h1'⟩, env2, st3, S3, E2.le L3, ?_⟩
            have q : Post g W σ ⟨m1, h1'⟩ H1 ((fk env2 st3).b fun y st => (fe env2 st).b fun x st => (match keyD y with
              | some k => dcD gt ft fk fe gd (ds.drop (i + 1)) (wipeE env vs) st (putKs kk k) (putDs kk acc k x)
              | none => .bad)) (VP g Q) := q
            generalize fk env2 st3 = rk at q ⊢
            cases rk with
            | ex c st4 => exact q.elim
            | bad => exact q.elim
            | ok kd st4 =>
              intro μ4 H4 L4 S4 w rw_
              obtain ⟨m4, h4⟩ := μ4
              obtain rfl : h4 = D₀ :: h1' := L4.hh
              refine ⟨⟨m4, D₀ :: h1'⟩, env2, st4, S4, (E2.le L3).le L4, ?_⟩
              have q : Post g W σ ⟨m1, h1'⟩ H1 ((fe env2 st4).b fun x st => (match keyD kd with
                | some k => dcD gt ft fk fe gd (ds.drop (i + 1)) (wipeE env vs) st (putKs kk k) (putDs kk acc k x)
                | none => .bad)) (VP g Q) := q
              generalize fe env2 st4 = re at q ⊢
              cases re with
              | ex c st5 => exact q.elim
              | bad => exact q.elim
              | ok y st5 =>
                intro μ5 H5 L5 S5 v rv
                obtain ⟨m5, h5⟩ := μ5
                obtain rfl : h5 = D₀ :: h1' := L5.hh
                have L24 := (L23.trans L4).trans L5
                have h5D : H5 D₀ = some (.dK (kk.zip vacc)) := (L24.hk D₀ List.mem_cons_self).trans hH
                have q : Post g W σ ⟨m1, h1'⟩ H1 (match keyD kd with
                  | some k => dcD gt ft fk fe gd (ds.drop (i + 1)) (wipeE env vs) st5 (putKs kk k) (putDs kk acc k y)
                  | none => .bad) (VP g Q) := q
                cases ek : keyD kd with
                | none => rw [ek] at q; exact q.elim
                | some ky =>
                  rw [ek] at q
                  obtain ⟨ws, w1, w2, w3⟩ := put_keys (g := g) kk vacc ky v hkl
                  have gr := le_grow (μ := ⟨m5, h1'⟩) (p := D₀) (o := .dK ((putKs kk ky).zip ws)) S5
                  have L25 := L24.toLw.trans gr
                  refine ⟨kk.zip vacc, ky, keyD_ok rw_ ek, h5D, ?_, ?_⟩
                  · rw [List.length_zip, sizeLine_eq]
                    omega
                  · rw [w1]
                    refine ⟨rfl, hlt, m5, st5, putKs kk ky, putDs kk acc ky y, ws, le_over rfl hD L L25 (fun a ha => (L2.upd_ne (nD a ha)).trans (L24.hk a (List.mem_cons_of_mem _ ha))), (RelS.growV (μ := ⟨m5, h1'⟩) (.k (kk.zip vacc)) (.k ((putKs kk ky).zip ws)) S5 h5D), E.lw L25, hJ.le L25, upd_same, w2.symm, w3 acc y _ _ (ra.lw L25) (rv.lw gr), ?_, q⟩
                    have := putKs_len kk ky
                    omega
    · exact q.elim
  · have hi2 : i = ds.length := by omega
    subst hi2
    rw [List.drop_length] at q
    have q : Post g W σ ⟨m1, h1'⟩ H1 (if gdOk gd st = true then R.ok (.dic (kk.map .k) acc) st else .bad) (VP g Q) := q
    split at q
    · rename_i hgd
      refine .inl ⟨(hJ _ H st Lw.refl S hgd).2, ?_⟩
      exact q ⟨μm, h1'⟩ H L (RelS.show (μ := ⟨μm, h1'⟩) S) _ ⟨D₀, vacc, _, rfl, ⟨(S.hid D₀ List.mem_cons_self).1, nD'⟩, .inl hH, .inl ⟨kk, keysK_map kk, rfl⟩, by rw [List.length_map]; exact hkl, ra.lw (lw_show (μ := ⟨μm, h1'⟩))⟩
    · exact q.elim
theorem pd_dc {kx vx tg iter : Expr} {ifs : List Expr} {scope : Scope} {own : List (Str × Nat)} {fi : DI} {is : List Nat} {gt : DG} {ft : DT} {fk fe : DE} (O : Ok X g W k) (hi : PID X g W tg iter fi) (ok : BlkOk X.N X.env.scope scope own)
    (hg : ∀ (s : Shared) (H : Hp) (C : Addr) (cl : List (Str × Addr)) (fp : List Addr), PGD (X.blk s H scope (compEnvC scope cl C X.env) fp) g tg is gt) (ht : ∀ (s : Shared) (H : Hp) (C : Addr) (cl : List (Str × Addr)) (fp : List Addr), PTsD (X.blk s H scope (compEnvC scope cl C X.env) fp) g W0 ifs ft)
    (hk : ∀ (s : Shared) (H : Hp) (C : Addr) (cl : List (Str × Addr)) (fp : List Addr), PD (X.blk s H scope (compEnvC scope cl C X.env) fp) g W0 kx fk)
    (he : ∀ (s : Shared) (H : Hp) (C : Addr) (cl : List (Str × Addr)) (fp : List Addr), PD (X.blk s H scope (compEnvC scope cl C X.env) fp) g W0 vx fe) (hs : ∀ x, foldedSetIterable iter X.env x = pure x := by intro _; rfl) (hv : ∀ i ∈ is, i ∈ own.map (·.2) := by decide) :
    PD X g W (.DictComp kx vx [⟨tg, iter, ifs, 0⟩] scope pos) (dDc fi gt ft fk fe (own.map (·.2))) :=
  PE.imp (pe_dc O.calm O.nd hi ok hg ht hk he hs) fun σ H Q ⟨μ, env, st, S, E, q⟩ => by
    refine bindI S E q fun μ1 H1 p st1 J L1 S1 E1 hJ h1 => ?_
    split at h1
    · rename_i hl
      exact fun D hD => dc_ok S1 E1 hJ hv hl h1 D hD
    · exact h1.elim
/-! ### sorted of a dict with int keys -/
def intKs : List HK → Option (List Int)
  | [] => some []
  | .k (.inl i) :: r => (intKs r).map (i :: ·)
  | _ :: _ => none
theorem intKs_ok : ∀ {ks : List HK} {ns : List Int}, intKs ks = some ns → keysK ks = some (ns.map .inl)
  | [], ns, e => by cases e; rfl
  | .k (.inl i) :: r, ns, e => by
    have e : (intKs r).map (i :: ·) = some ns := e
    cases q : intKs r with
    | none => rw [q] at e; cases e
    | some ms =>
      rw [q] at e
      cases e
      show (keysK r).map _ = _
      rw [intKs_ok q]
      rfl
  | .k (.inr i) :: r, ns, e => by cases e
  | .t x :: r, ns, e => by cases e
theorem keysT_int : ∀ {ks : List HK} {ns : List Int} {kk : List (List Key)}, intKs ks = some ns → keysT ks = some kk → kk = []
  | [], ns, kk, e, h => by cases h; rfl
  | .k x :: r, ns, kk, e, h => by cases h
  | .t x :: r, ns, kk, e, h => by cases e
def bSortedK (b : Bool) : List D → Store → R D := fun ds st => match ds with
  | [d] => (match d with
    | .dic ks _ => (match intKs ks with
      | some ns => if ns.length < 64 then mkL b ((sortI ns).map .int) st else .bad
      | none => .bad)
    | _ => .bad)
  | _ => .bad
theorem cSortedK {b : Bool} (O : Ok X g W k) : CallD X g W (.builtin "sorted") (bSortedK b) := call1 (call_sortedDI O.calm) fun σ μ H st d v Q S r q => by
  split at q
  · rename_i ks vs
    split at q
    · rename_i ns hn
      split at q
      · rename_i hl
        obtain ⟨a, ws, o, e, n, rd, dO, hlen, rv⟩ := r
        have hk := intKs_ok hn
        rcases dO with ⟨kk, e1, e2⟩ | ⟨kk, e1, e2, e3⟩
        · rw [hk] at e1
          cases e1
          subst e2
          have hlen2 : (ns.map (Sum.inl : Int → Key)).length = ws.length := by
            rw [← hlen]
            have : ∀ {ks : List HK} {kk : List Key}, keysK ks = some kk → kk.length = ks.length := by
              intro ks
              induction ks with
              | nil => intro kk e; cases e; rfl
              | cons k ks ih =>
                intro kk e
                cases k with
                | k x =>
                  have e : (keysK ks).map (x :: ·) = some kk := e
                  cases q : keysK ks with
                  | none => rw [q] at e; cases e
                  | some ms => rw [q] at e; cases e; simp [ih q]
                | t x => cases e
            exact this hk
          refine ⟨a, _, ns, by rw [e], rd, ?_, hl, fun ys p hp hs hnn => ?_⟩
          · rw [List.map_fst_zip (by omega)]
          · rw [sortI_eq hp hs]
            exact mkL_ok S (reps_ints _) q hnn
        · exact absurd (keysT_int hn e1) e2
      · exact q.elim
    · exact q.elim
  · exact q.elim
/-! ### list.index -/
def dIndex (fo fe : DE) : DE := fun env st => (fo env st).bind fun o st => match seqL st o with
  | some _ => (fe env st).bind fun d st => (match seqL st o with
    | some ds => if d.isSc = true ∧ ds.all D.isSc = true then (match ds.findIdx? fun e => D.eqv e d with
      | some j => .ok (.int (j : Nat)) st
      | none => .bad) else .bad
    | none => .bad)
  | none => .bad
theorem pd_index {o e : Expr} {fo fe : DE} {apos cpos : Pos} (O : Ok X g W k) (ho : PD X g W o fo) (he : PD X g W e fe) (hbase : attributeBase o "index" X.env (eval o X.env) = eval o X.env := by rfl)
    (hfew : ((backTo cpos (starEach [e] X.env)).all (fun x => !x.1) && (backToKw cpos (keywordEach [] X.env)).all (fun x => x.1.isSome)
      && decide ([e].length + ([] : List Keyword).length + (if ([] : List Keyword).isEmpty then 0 else 1) < 30)) = true := by rfl)
    (hline : (apos.endLine == cpos.line) = true := by rfl) (hs : starEach [e] X.env = (false, eval e X.env) :: starEach [] X.env := by rfl) :
    PD X g W (.Call (.Attribute o "index" apos) [e] [] cpos) (dIndex fo fe) :=
  PE.imp (pe_bm PySem.F.plainAttrs_list PySem.F.slot_list_index PySem.F.type_list_index mt_index ho (L2.pa_cons he L2.pa_nil hs) hbase hfew hline hs rfl) fun σ H Q ⟨μ, env, st, S, E, h⟩ => by
    refine bindE S E h fun μ1 H1 od st1 ov L1 S1 E1 r1 h1 => ?_
    split at h1
    · rename_i ds0 e0
      obtain ⟨a, vs0, ea, q0, _⟩ := seqL_ok S1 r1 e0
      subst ea
      refine ⟨.inl ⟨rfl, vs0, by rw [O.hK]; exact q0⟩, ?_⟩
      refine bindE S1 E1 h1 fun μ2 H2 d st2 v L2' S2 E2 r2 h2 => ?_
      split at h2
      · rename_i ds e2
        split at h2
        · rename_i hh
          split at h2
          · rename_i j hj
            obtain ⟨a2, vs, ea2, q2, r3⟩ := seqL_ok S2 (r1.le L2') e2
            cases ea2
            obtain ⟨hjl, hj1, hj2⟩ := List.findIdx?_eq_some_iff_getElem.mp hj
            obtain ⟨z, hz, rz⟩ := r3.get (List.getElem?_eq_getElem hjl)
            have hall := List.all_eq_true.mp hh.2
            refine ⟨a, vs, v, j, z, rfl, rfl, by rw [O.hK]; exact q2, flat_ok r2 hh.1, flats_ok r3 hh.2, hz, ?_, fun m z' hm hz' => ?_, h2.here S2 _ rfl⟩
            · rw [eqv_ok rz r2 (hall _ (List.getElem_mem hjl)) hh.1]
              exact hj1
            · have hml : m < ds.length := by omega
              obtain ⟨z2, hz2, rz2⟩ := r3.get (List.getElem?_eq_getElem hml)
              rw [hz'] at hz2
              cases hz2
              rw [eqv_ok rz2 r2 (hall _ (List.getElem_mem hml)) hh.1]
              simpa using hj2 m hm
          · exact h2.elim
        · exact h2.elim
      · exact h2.elim
    · exact h1.elim
/-! ### max, min of a list or a tuple of ints -/
theorem cr_maxT (hc : X.calm = true) : CallR X (.builtin "max") (fun vs H Q => ∃ (a : Addr) (ns : List Int), vs = [V.ref a] ∧ SqT X.K H a (ns.map V.int) ∧ 0 < ns.length ∧ ∀ m, m ∈ ns → (∀ y, y ∈ ns → y ≤ m) → Q (.int m) H) := by
  intro pins s σ H vs us Q I r h
  obtain ⟨a, ns, rfl, hs, hne, q⟩ := h
  obtain ⟨u, rfl, ru⟩ := vals1 r
  obtain rfl : u = Value.ref a := ru
  obtain ⟨its, rv, pt, _⟩ := I.tuple hs
  have pt' : s.heap.IsTuple a its.toArray := pt
  have hlt : a < s.heap.objs.size := pt.lt
  have hi := intsAre_of rv
  obtain ⟨xs, e⟩ := hi.allInts.items
  have hn : numsOf (intItems xs).toList = ns := by rw [← e]; exact hi.numsOf
  rw [nums_intItems] at hn
  subst hn
  have hsz : 0 < xs.size := by simpa using hne
  rw [e] at pt'
  refine call_max_walk (wpAny_pyIter_tuple pt' ⟨s.heap.objs.size, _, _, _, _, _, _, rfl, Walks.tuple (A := X.A.in1) (I.ok.hd hc) s.heap.objs.size a (Nat.ne_of_lt hlt) (intItems xs), ⟨⟨_, Heap.get?_push_size _ rfl, rfl, rfl⟩, ?_⟩, fun b hb => ?_, by simpa [intItems] using hsz, CmpOf.ints_gt (numAt xs) (fun _ _ => intItems_at), fun v h' tk hP hk => ?_⟩)
  · exact pt'.at fun o e => Heap.get?_push_of_some _ e
  · show b < (s.heap.push _).objs.size
    rw [Heap.size_push]
    rcases List.mem_cons.mp hb with z | z
    · rw [z]; exact Nat.lt_succ_self _
    · rw [List.mem_singleton.mp z]; exact Nat.lt_succ_of_lt hlt
  · have hP : (intItems xs)[argBest (fun i j => decide (numAt xs i > numAt xs j)) (xs.size - 1)]? = some v := by simpa [intItems] using hP
    obtain ⟨t, rfl⟩ := intItems_at hP
    obtain ⟨h1, h2⟩ := argBest_gt (numAt xs) (xs.size - 1)
    refine ⟨.int _, H, I.kept fun b o e => hk b o (by simp; intro z; rw [z] at e; exact Nat.lt_irrefl _ (Heap.lt_size e)) (Heap.get?_push_of_some _ e), ⟨t, rfl⟩, q _ ?_ fun y hy => ?_⟩
    · rw [numAt_eq]; exact PySem.getD_mem (by rw [List.length_map, Array.length_toList]; omega)
    · obtain ⟨j, hj, rfl⟩ := mem_getD hy
      rw [List.length_map, Array.length_toList] at hj
      rw [← numAt_eq]; exact h2 j (by omega)
def bMaxA : List D → Store → R D := fun ds st => match ds with
  | [d] => (match seqA st d with
    | some ds => (match (intsD ds).bind maxI with
      | some n => .ok (.int n) st
      | none => .bad)
    | none => .bad)
  | _ => .bad
theorem cMaxA (O : Ok X g W k) : CallD X g W (.builtin "max") bMaxA := call1 (callR_or (cr_max O.calm) (cr_maxT O.calm)) fun σ μ H st d v Q S r q => by
  rw [O.hK]
  split at q
  · rename_i ds hs
    split at q
    · rename_i n hn
      obtain ⟨a, vs, e, h1, r1⟩ := seqA_ok S r hs
      cases hi : intsD ds with
      | none => rw [hi] at hn; cases hn
      | some ns =>
        rw [hi] at hn
        have e2 := ints_ok hi r1
        subst e2
        cases ns with
        | nil => cases hn
        | cons m ns =>
          cases hn
          obtain ⟨f1, f2, f3⟩ := foldl_max ns m
          have fin : ∀ x, x ∈ m :: ns → (∀ y, y ∈ m :: ns → y ≤ x) → Q (.int x) H := fun x hx hy => by
            have hx1 : ns.foldl max m ∈ m :: ns := f1.elim (fun z => by rw [z]; exact List.mem_cons_self) (List.mem_cons_of_mem _)
            have a1 := hy _ hx1
            have a2 : x ≤ ns.foldl max m := (List.mem_cons.mp hx).elim (fun z => by rw [z]; exact f2) (f3 x)
            rw [show x = ns.foldl max m by omega]
            exact q.here S _ rfl
          rcases h1 with h1 | h1
          · exact .inl ⟨a, m :: ns, by rw [e], h1, Nat.succ_pos _, fin⟩
          · exact .inr ⟨a, m :: ns, by rw [e], h1, Nat.succ_pos _, fin⟩
    · exact q.elim
  · exact q.elim
end
end G
namespace G
open PySem L2
/-! ### comprehensions within comprehensions: the scope as it stands there -/
def relS (o i : Scope) : Scope := { i with names := i.names.map fun x => if (x.2 == .free && o.kind == .function && o.names.lookup x.1 == some .cell) = true then (x.1, .cell) else (x.1, x.2) }
theorem relabel_eq (l : Scope) (e : PySem.Env) : relabel l e = relS e.scope l := rfl
end G

namespace G
open PySem L2 PySem.Spec PyProof.Rows GenW
/-! ### any(a generator expression) -/
def acon (It : Nat → V → Prop) : Con := ⟨[], fun ys cp => cp = [] ∧ ∀ y ∈ ys, y = V.bl false, It⟩
theorem acon_ok (It : Nat → V → Prop) : (acon It).Ok := ⟨fun ys cp ⟨e, _⟩ => by rw [e]; rfl, fun ys cp ⟨e, _⟩ p hp v q => by rw [e] at hp; cases hp⟩
theorem acon_stp (It : Nat → V → Prop) : ∀ ys cp, (acon It).inv (ys ++ [.bl true]) cp → False := fun ys cp ⟨_, h⟩ => by
  have := h (.bl true) (List.mem_append_right _ List.mem_cons_self)
  cases this
theorem anyG {P : Program} {w : World} {outer : List PySem.Env} {H : Hp} {sc : Shared} {ex : List Addr} {It : Nat → V → Prop} {Q : List V → Hp → Prop} {Yl : V → Hp → Prop} {A : Around} {R : Result → Shared → Prop} {a : Addr} {g : Nat}
    (hbl : ∀ j x, It j x → ∃ b, x = .bl b) (hh : A.handled = none) (hd : A.depth < recursionLimit)
    (hend : ∀ s' H' ys, (∀ y ∈ ys, y = V.bl false) → s'.os = sc.os → AllBare s'.gens → Un (frs outer) ex H H' sc.heap s'.heap → HOk P w H' s'.heap → Q ys H' → R (.ok (.ret (.bool false))) s')
    (htrue : ∀ s' H' j, It j (.bl true) → s'.os = sc.os → AllBare s'.gens → Un (frs outer) ex H H' sc.heap s'.heap → HOk P w H' s'.heap → Yl (.bl true) H' → R (.ok (.ret (.bool true))) s') :
    ∀ (m : Nat) (s : Shared), s.heap.IsGen a g → s.heap.NoLimit →
      (∃ gs, s.gens[g]? = some gs ∧ gs.Goes (model P w) A.in1.in1 (GEnd' P w outer H sc ex (acon It) Q) (GPub P w outer H sc ex (acon It) Yl a g) m (.send .none) (s.setGen g .running)) →
      codeAny (model P w) A (.builtin "any.loop" ⟨[.ref a], []⟩) R s := by
  have goes : ∀ {gs : GenState} {B : Around} {n : Nat} {r : Resume} {s : Shared}, gs.Goes (model P w) B (GEnd' P w outer H sc ex (acon It) Q) (GPub P w outer H sc ex (acon It) Yl a g) n r s →
      gs.Goes (model P w) B (fun n s₀ r s1 => ((r = .ok (.ret .none) ∨ r = .ok .next) ∧ GFin P w outer H sc ex (acon It) Q n s1) ∨ ∃ e, r = .error e ∧ False) (GPub P w outer H sc ex (acon It) Yl a g) n r s := fun h => h
  have ends : ∀ {n : Nat} {s1 : Shared}, GFin P w outer H sc ex (acon It) Q n s1 → ∀ h', (∀ b o, s1.heap.get? b = some o → h'.get? b = some o) → R (.ok (.ret (.bool false))) { s1.setGen g .finished with heap := h' } := fun {n s1} hp h' hk => by
    obtain ⟨H', ys, cp, os1, hb1, un, hok, hSn, ⟨ecp, hv⟩, hpin, hn, hQ⟩ := hp
    exact hend _ H' ys hv os1 (allBare_setGen hb1 rfl) (un.trans (Un.kept hk)) (hok.kept hk) hQ
  intro m
  induction m with
  | zero =>
    intro s hg hl ⟨gs, hgs, hgo⟩
    refine codeAny_builtin F.entry_any_loop ?_
    rw [Around.under_plainId F.plain_any_loop _]
    show wpAny _ A.in1 (pyNext (.ref a) >>= _) _ _ s
    refine wpAny_bind (next_genG (A := A.in1) hh hl hd hg hgs (goes hgo) (fun v s₁ gs' hbare hv => ?_) (fun s₁ hp h' hk => ?_) fun e s₁ he => he.elim)
    · obtain ⟨_, hb1, _, _, ys, x, cp, ⟨H', u1, u2, u3, u4⟩, hn, rv, hit, ⟨ecp, hv⟩, hpin, hk⟩ := hv
      obtain ⟨b, rfl⟩ := hbl _ _ hit
      obtain rfl : v = Value.bool b := rv
      refine wpAny_bind (wpAny_holding (wpAny_truthy_bool ?_))
      refine wpAny_bind (wpAny_letGo ?_)
      cases b with
      | true =>
        simp only [if_true]
        exact wpAny_bind (wpAny_rule (wpAny_pure (htrue _ H' _ hit (by assumption) (allBare_setGen hb1 hbare) u1 u2 u4)))
      | false => exact False.elim (hk _ [] ⟨rfl, hb1, fun b o _ e => e⟩ ⟨rfl, fun y hy => (List.mem_append.mp hy).elim (hv y) fun z => List.mem_singleton.mp z⟩ fun p hp => nomatch hp)
    · exact wpAny_bind (wpAny_rule (wpAny_pure (ends hp h' hk)))
  | succ m ih =>
    intro s hg hl ⟨gs, hgs, hgo⟩
    have hgl : g < s.gens.size := (Array.getElem?_eq_some_iff.mp hgs).1
    refine codeAny_builtin F.entry_any_loop ?_
    rw [Around.under_plainId F.plain_any_loop _]
    show wpAny _ A.in1 (pyNext (.ref a) >>= _) _ _ s
    refine wpAny_bind (wpAny_gsz (n := g + 1) hgl (next_genG (A := A.in1) hh hl hd hg hgs (goes hgo) (fun v s₁ gs' hbare hv => ?_) (fun s₁ hp h' hk => ?_) fun e s₁ he => he.elim))
    · intro hsz
      obtain ⟨os1, hb1, hl1, hg1, ys, x, cp, ⟨H', u1, u2, u3, u4⟩, hn, rv, hit, ⟨ecp, hv⟩, hpin, hk⟩ := hv
      obtain ⟨b, rfl⟩ := hbl _ _ hit
      obtain rfl : v = Value.bool b := rv
      refine wpAny_bind (wpAny_holding (wpAny_truthy_bool ?_))
      refine wpAny_bind (wpAny_letGo ?_)
      cases b with
      | true =>
        simp only [if_true]
        exact wpAny_bind (wpAny_rule (wpAny_pure (htrue _ H' _ hit os1 (allBare_setGen hb1 hbare) u1 u2 u4)))
      | false =>
        simp only [Bool.false_eq_true, if_false]
        have hsz1 : g < s₁.gens.size := by
          have q : (s₁.setGen g gs').gens.size = s₁.gens.size := setGen_size _ _ _
          have hsz' : g + 1 ≤ (s₁.setGen g gs').gens.size := hsz
          omega
        refine wpAny_pure ⟨plainId_quiet F.plain_any_loop _, ih (s₁.setGen g gs') hg1 hl1 ⟨gs', setGen_at hsz1, ?_⟩⟩
        exact hk _ [] ⟨rfl, allBare_setGen (s := s₁.setGen g gs') (allBare_setGen hb1 hbare) (x := .running) (g := g) rfl, fun b o _ e => e⟩ ⟨rfl, fun y hy => (List.mem_append.mp hy).elim (hv y) fun z => List.mem_singleton.mp z⟩ fun p hp => nomatch hp
    · intro hsz
      exact wpAny_bind (wpAny_rule (wpAny_pure (ends hp h' hk)))
theorem call_anyG {P : Program} {w : World} {outer : List PySem.Env} {H : Hp} {sc s : Shared} {ex : List Addr} {It : Nat → V → Prop} {Q : List V → Hp → Prop} {Yl : V → Hp → Prop} {A : Around} {k : Nat} {u : Value} {Q' : Value → Shared → Prop} {E : Value → Shared → Prop}
    (hbl : ∀ j x, It j x → ∃ b, x = .bl b) (hr : Room (k + 4) A) (hfr : A.frames = some outer) (h : GMk P w k outer H sc ex true Yl It Q u s)
    (hend : ∀ s' H' ys, (∀ y ∈ ys, y = V.bl false) → s'.os = sc.os → AllBare s'.gens → Un (frs outer) ex H H' sc.heap s'.heap → HOk P w H' s'.heap → Q ys H' → Q' (.bool false) s')
    (htrue : ∀ s' H' j, It j (.bl true) → s'.os = sc.os → AllBare s'.gens → Un (frs outer) ex H H' sc.heap s'.heap → HOk P w H' s'.heap → Yl (.bl true) H' → Q' (.bool true) s') :
    wpAny (model P w) A (call (.builtin "any") [u]) Q' E s := by
  obtain ⟨a, g, c, rfl, ha1, ha2, hg, hgs, hos, hb, hl, hkp, wake⟩ := h
  refine call_function_tree F.kind_any F.plain_any F.entry_any (F.args_any1 _) ?_
  unfold Builtin.«any»
  refine wpAny_bind (m := oneArg "any" _) (wpAny_pure ?_)
  refine wpAny_bind (wpAny_pyIter_gen hg ?_)
  refine wpAny_pure ⟨plainId_quiet F.plain_any_loop _, ?_⟩
  refine anyG (Yl := Yl) (Q := Q) (It := It) (outer := outer) (H := H) (sc := sc) (ex := ex) (g := g) hbl hr.hd (by have := hr.dp; omega) (fun s' H' ys q0 q1 q2 q3 q4 q5 => hend s' H' ys q0 q1 q2 q3 q4 q5) (fun s' H' j q0 q1 q2 q3 q4 q5 => htrue s' H' j q0 q1 q2 q3 q4 q5) sizeLine _ hg hl ⟨_, hgs, rfl, ?_⟩
  refine wake _ (acon It) _ [] ⟨hr.hd, ?_, ?_⟩ hfr (acon_ok _) (fun _ => acon_stp It) (fun _ _ h => h) (fun S hS => nomatch hS) (fun b o e => e) ⟨rfl, fun y hy => nomatch hy⟩ (fun p hp => nomatch hp) hos (allBare_setGen hb rfl)
  · have := hr.dp
    show A.depth + 3 * k + 5 < _
    omega
  · have := hr.un
    show A.units + 1 + 1 + 16 * k + 200 < _
    omega

def isBl : D → Bool
  | .bl _ => true
  | _ => false
theorem bl_all {g : GC} {μ : Mp} {H : Hp} : ∀ {outs : List D} {ys : List V}, Reps g μ H outs ys → (∀ y ∈ ys, y = V.bl false) → outs.any isTT = false
  | [], ys, _, _ => rfl
  | d :: outs, ys, r, h => by
    obtain ⟨v, vr, e, r1, r2⟩ := r
    subst e
    have hv := h v List.mem_cons_self
    have ih := bl_all r2 fun y hy => h y (List.mem_cons_of_mem _ hy)
    rw [List.any_cons, ih, Bool.or_false]
    cases q : isTT d with
    | false => rfl
    | true =>
      rw [isTT_eq q] at r1
      have r1 : v = .bl true := r1
      rw [r1] at hv
      cases hv
def dAnyG (f : Env → Store → R Th) : DE := fun env st => (f env st).bind fun th st => (th true st).b fun xs st => if xs.all isBl = true then .ok (.bl (xs.any isTT)) st else .bad
section
variable {X : Cx} {g : GC} {W : WX} {k : Nat} {pos : Pos}
theorem pd_anyG {e : Expr} {f : Env → Store → R Th} {j : Nat} {p : Pos} (O : Ok X g W k) (F : PGx X g W j e f) (hj : j + 4 ≤ k) (hm : X.mg "any" = none) (hg : Gl X "any" := by rfl)
    (he : starEach [e] X.env = (false, eval e X.env) :: starEach [] X.env := by rfl) : PD X g W (.Call (.Name "any" p) [e] [] pos) (dAnyG f) := by
  refine ⟨fun pins s σ H Q I ⟨μ, env, st, S, E, h⟩ => ?_⟩
  refine wpAny_Call_Name_kw (ld_blt I hg hm boot_any ?_)
  refine PyProof.Rows.callWith_builtin1 ?_ he rfl
  rw [he]
  show wpAny _ _ (spliced ((false, eval e X.env) :: backTo pos (starEach [] X.env))) _ _ s
  refine Calls.spliced_cons (F.run pins s σ H _ μ env st true I S E ?_)
  have h : Post g W σ μ H ((f env st).bind fun th st => (th true st).b fun xs st => if xs.all isBl = true then R.ok (D.bl (xs.any isTT)) st else .bad) (VP g Q) := h
  generalize f env st = r at h ⊢
  cases r with
  | ex c st1 => exact h
  | bad => exact h
  | ok th st1 =>
    intro μ1 H1 L1 S1
    have h : Post g W σ μ H ((th true st1).b fun xs st => if xs.all isBl = true then R.ok (D.bl (xs.any isTT)) st else .bad) (VP g Q) := h
    cases et : th true st1 with
    | ex c st2 => rw [et] at h; exact h.elim
    | bad => rw [et] at h; exact h.elim
    | ok outs st2 =>
      rw [et] at h
      have h : Post g W σ μ H (if outs.all isBl = true then R.ok (D.bl (outs.any isTT)) st2 else .bad) (VP g Q) := h
      intro u sc ex s' I1 hex hG
      refine Calls.spliced_nil ?_
      split at h
      · rename_i hall
        refine call_anyG (fun i x hx => ?c1) (O.room.mono hj) I1.ok.frames hG (fun s2 H' ys q0 q3 q4 q5 q6 q7 => ?c2) (fun s2 H' i q0 q3 q4 q5 q6 q7 => ?c3)
        case c1 =>
          obtain ⟨d, μ', H', hd, rd⟩ := hx
          have := List.all_eq_true.mp hall d (List.mem_of_getElem? hd)
          cases d with
          | bl b => exact ⟨b, rd⟩
          | _ => cases this
        case c2 =>
          obtain ⟨μ2, L2', S2, r2⟩ := q7
          have I2 : Inv X pins σ H' s2 := I1.call' (ch := ex) q3 q5 q6 q4 hex
          refine ⟨.bl false, _, I2, rfl, ?_⟩
          rw [bl_all r2 q0] at h
          exact h μ2 H' (L1.trans L2') S2 _ rfl
        case c3 =>
          obtain ⟨μ2, L2', S2⟩ := q7
          have I2 : Inv X pins σ H' s2 := I1.call' (ch := ex) q3 q5 q6 q4 hex
          refine ⟨.bl true, _, I2, rfl, ?_⟩
          obtain ⟨d, μ', H'', hd, rd⟩ := q0
          have hany : outs.any isTT = true := List.any_eq_true.mpr ⟨d, List.mem_of_getElem? hd, rep_tt rd⟩
          rw [hany] at h
          exact h μ2 H' (L1.trans L2') (S2 rfl rfl) _ rfl
      · exact h.elim
end
end G

namespace G
open PySem L2 PySem.Spec PyProof.Rows GenW
/-! ### sum(a generator expression) -/
def inL (i : Int) : Bool := decide (-9223372036854775808 ≤ i) && decide (i < 9223372036854775808)
def sumOk : Int → List Int → Bool
  | _, [] => true
  | z, n :: ns => inL n && inL (z + n) && sumOk (z + n) ns
theorem sumOk_at : ∀ (NS : List Int) (z : Int) (j : Nat) (n : Int), sumOk z NS = true → NS[j]? = some n → inL n = true ∧ inL (z + (NS.take j).sum + n) = true
  | [], _, j, n, _, h => by simp at h
  | m :: NS, z, 0, n, h, e => by
    cases e
    unfold sumOk at h
    rw [Bool.and_eq_true, Bool.and_eq_true] at h
    simpa using h.1
  | m :: NS, z, j + 1, n, h, e => by
    unfold sumOk at h
    rw [Bool.and_eq_true] at h
    have := sumOk_at NS (z + m) j n h.2 (by simpa using e)
    rw [List.take_succ_cons, List.sum_cons, ← Int.add_assoc]
    exact this
def sumObj (z : Int) (t : Tok) (c : Nat) : Obj := { cls := .type "list", dict := none, data := .seq #[.int z t] c, slots := #[] }
def scon (S : Addr) (NS : List Int) (It : Nat → V → Prop) : Con := ⟨[S], fun ys cp => ∃ t c, cp = [(S, sumObj (NS.take ys.length).sum t c)], It⟩
theorem scon_ok (S : Addr) (NS : List Int) (It : Nat → V → Prop) : (scon S NS It).Ok := ⟨fun ys cp ⟨t, c, e⟩ => by rw [e]; rfl, fun ys cp ⟨t, c, e⟩ p hp v q => by
  rw [e] at hp
  rw [List.mem_singleton.mp hp] at q
  cases q⟩
theorem inL_both {a b : Int} (h : inL a = true) (h' : inL b = true) : ((decide (-(2 ^ 63) ≤ a) && decide (a < 2 ^ 63)) && (decide (-(2 ^ 63) ≤ b) && decide (b < 2 ^ 63))) = true := by
  unfold inL at h h'
  rw [Bool.and_eq_true, decide_eq_true_eq, decide_eq_true_eq] at h h'
  simp only [Bool.and_eq_true, decide_eq_true_eq]
  exact ⟨⟨h.1, h.2⟩, h'.1, h'.2⟩
theorem sumG {P : Program} {w : World} {outer : List PySem.Env} {H : Hp} {sc : Shared} {ex : List Addr} {It : Nat → V → Prop} {Q : List V → Hp → Prop} {Yl : V → Hp → Prop} {A : Around} {R : Result → Shared → Prop} {S a : Addr} {g : Nat} {NS : List Int}
    (hbl : ∀ j x, It j x → ∃ n, NS[j]? = some n ∧ x = .int n) (hok : sumOk 0 NS = true) (hh : A.handled = none) (hd : A.depth < recursionLimit) (hSa : S ≠ a) (hSc : S ≠ cStatics)
    (hend : ∀ s' H' (ys : List V) t, s'.os = sc.os → AllBare s'.gens → Un (frs outer) ex H H' sc.heap s'.heap → HOk P w H' s'.heap → Q ys H' → R (.ok (.ret (.int (NS.take ys.length).sum t))) s') :
    ∀ (m : Nat) (s : Shared) (z : Int) (t : Tok) (c len : Nat), s.heap.IsGen a g → s.heap.NoLimit → s.heap.get? S = some (sumObj z t c) → m + len = sizeLine → z = (NS.take len).sum →
      (∃ gs, s.gens[g]? = some gs ∧ gs.Goes (model P w) A.in1.in1 (GEnd' P w outer H sc ex (scon S NS It) Q) (GPub P w outer H sc ex (scon S NS It) Yl a g) m (.send .none) (s.setGen g .running)) →
      codeAny (model P w) A (.builtin "sum.loop" ⟨[.ref a, .ref S, rawInt 0, rawInt 0], []⟩) R s := by
  have goes : ∀ {gs : GenState} {B : Around} {n : Nat} {r : Resume} {s : Shared}, gs.Goes (model P w) B (GEnd' P w outer H sc ex (scon S NS It) Q) (GPub P w outer H sc ex (scon S NS It) Yl a g) n r s →
      gs.Goes (model P w) B (fun n s₀ r s1 => ((r = .ok (.ret .none) ∨ r = .ok .next) ∧ GFin P w outer H sc ex (scon S NS It) Q n s1) ∨ ∃ e, r = .error e ∧ False) (GPub P w outer H sc ex (scon S NS It) Yl a g) n r s := fun h => h
  have ends : ∀ {n len : Nat} {s1 : Shared} (t : Tok), n + len = sizeLine → GFin P w outer H sc ex (scon S NS It) Q n s1 → ∀ h', (∀ b o, s1.heap.get? b = some o → h'.get? b = some o) → R (.ok (.ret (.int (NS.take len).sum t))) { s1.setGen g .finished with heap := h' } := fun {n len s1} t hlen hp h' hk => by
    obtain ⟨H', ys, cp, os1, hb1, un, hok, hSn, _, hpin, hn, hQ⟩ := hp
    have : len = ys.length := by omega
    rw [this]
    exact hend _ H' ys t os1 (allBare_setGen hb1 rfl) (un.trans (Un.kept hk)) (hok.kept hk) hQ
  intro m
  induction m with
  | zero =>
    intro s z t c len hg hl hS hlen hz ⟨gs, hgs, hgo⟩
    refine codeAny_builtin F.entry_sum_loop ?_
    rw [Around.under_plainId F.plain_sum_loop _]
    show wpAny _ A.in1 (seqItems? (.ref S) >>= _) _ _ s
    refine wpAny_bind (wpAny_seqItems hS rfl ?_)
    show wpAny _ A.in1 (tryCatch (pyNext (.ref a)) _ >>= _) _ _ s
    refine wpAny_bind (wpAny_tryCatch (next_genG (A := A.in1) hh hl hd hg hgs (goes hgo) (fun v s₁ gs' hbare hv => ?_) (fun s₁ hp h' hk => ?_) fun e s₁ he => he.elim))
    · obtain ⟨_, hb1, _, _, ys, x, cp, _, hn, rv, hit, ⟨t', c', ecp⟩, hpin, hk⟩ := hv
      subst ecp
      have hS1 : s₁.heap.get? S = some (sumObj (NS.take ys.length).sum t' c') := hpin _ List.mem_cons_self
      exact False.elim (hk { s₁ with heap := s₁.heap.update S (Obj.mapSeq fun _ => #[.int (NS.take (ys ++ [x]).length).sum t']) } _ ⟨rfl, hb1, fun b o hb e => (Heap.get?_update_other _ _ (fun z => hb (by rw [← z]; exact List.mem_singleton.mpr rfl))).trans e⟩ ⟨t', _, rfl⟩ fun p hp => by
        rw [List.mem_singleton.mp hp]
        exact Heap.get?_update_self _ hS1 rfl)
    · rw [hz]
      exact wpAny_pure (ends t hlen hp h' hk)
  | succ m ih =>
    intro s z t c len hg hl hS hlen hz ⟨gs, hgs, hgo⟩
    have hgl : g < s.gens.size := (Array.getElem?_eq_some_iff.mp hgs).1
    refine codeAny_builtin F.entry_sum_loop ?_
    rw [Around.under_plainId F.plain_sum_loop _]
    show wpAny _ A.in1 (seqItems? (.ref S) >>= _) _ _ s
    refine wpAny_bind (wpAny_seqItems hS rfl ?_)
    show wpAny _ A.in1 (tryCatch (pyNext (.ref a)) _ >>= _) _ _ s
    refine wpAny_bind (wpAny_tryCatch (wpAny_gsz (n := g + 1) hgl (next_genG (A := A.in1) hh hl hd hg hgs (goes hgo) (fun v s₁ gs' hbare hv => ?_) (fun s₁ hp h' hk => ?_) fun e s₁ he => he.elim)))
    · intro hsz
      obtain ⟨os1, hb1, hl1, hg1, ys, x, cp, _, hn, rv, hit, ⟨t', c', ecp⟩, hpin, hk⟩ := hv
      subst ecp
      have hS1 : s₁.heap.get? S = some (sumObj (NS.take ys.length).sum t' c') := hpin _ List.mem_cons_self
      have hle : ys.length = len := by omega
      obtain ⟨n, hNS, rfl⟩ := hbl _ _ hit
      obtain ⟨tv, rfl⟩ := rv
      have hfit := sumOk_at NS 0 _ n hok hNS
      rw [Int.zero_add, hle, ← hz] at hfit
      have hc := inL_both hfit.1 hfit.2
      have hsum : z + n = (NS.take (ys ++ [V.int n]).length).sum := by
        rw [hz, List.length_append, hle]
        rw [hle] at hNS
        rw [List.length_singleton, List.take_add_one, hNS]
        simp
      have hsz1 : g < s₁.gens.size := by
        have q : (s₁.setGen g gs').gens.size = s₁.gens.size := setGen_size _ _ _
        have hsz' : g + 1 ≤ (s₁.setGen g gs').gens.size := hsz
        omega
      show wpAny _ A.in1 (if (_ : Bool) = true then (mkInt (z + n) >>= _) else _) _ _ _
      split
      · refine wpAny_bind (wpAny_mkInt ?_)
        show wpAny _ A.in1 (updateSeq S (fun _ => #[.int (z + n) (s₁.setGen g gs').toks]) >>= _) _ _ _
        refine wpAny_bind ?_
        refine wpAny_updateSeq hS1 rfl (wpAny_pure ⟨plainId_quiet F.plain_sum_loop _, ih _ (z + n) (s₁.setGen g gs').toks _ (len + 1) ?_ ?_ (Heap.get?_update_self _ hS1 rfl) (by omega) ?_ ⟨gs', setGen_at hsz1, ?_⟩⟩)
        · obtain ⟨o, nm, qn, ho, r⟩ := hg1
          exact ⟨o, nm, qn, (Heap.get?_update_other _ _ hSa).trans ho, r⟩
        · obtain ⟨mc, hns, hnn⟩ := hl1
          exact ⟨mc, hns.at' fun o e => (Heap.get?_update_other _ _ hSc).trans e, hnn⟩
        · rw [hsum, List.length_append, hle]
          rfl
        · refine hk _ [(S, sumObj (z + n) (s₁.setGen g gs').toks _)] ⟨rfl, allBare_setGen (s := s₁.setGen g gs') (allBare_setGen hb1 hbare) (x := .running) (g := g) rfl, fun b o hb e => (Heap.get?_update_other _ _ (fun z => hb (by rw [← z]; exact List.mem_singleton.mpr rfl))).trans e⟩ ⟨_, _, by rw [← hsum]⟩ fun p hp => by
            rw [List.mem_singleton.mp hp]
            exact Heap.get?_update_self _ hS1 rfl
      · rename_i hneg
        exact absurd hc hneg
    · intro hsz
      rw [hz]
      exact wpAny_pure (ends t hlen hp h' hk)

theorem call_sumG {P : Program} {w : World} {outer : List PySem.Env} {H : Hp} {sc s : Shared} {ex : List Addr} {It : Nat → V → Prop} {Q : List V → Hp → Prop} {Yl : V → Hp → Prop} {A : Around} {k : Nat} {u : Value} {Q' : Value → Shared → Prop} {E : Value → Shared → Prop} {NS : List Int}
    (hbl : ∀ j x, It j x → ∃ n, NS[j]? = some n ∧ x = .int n) (hok : sumOk 0 NS = true) (hr : Room (k + 4) A) (hfr : A.frames = some outer) (h : GMk P w k outer H sc ex false Yl It Q u s)
    (hend : ∀ s' H' (ys : List V) t, s'.os = sc.os → AllBare s'.gens → Un (frs outer) ex H H' sc.heap s'.heap → HOk P w H' s'.heap → Q ys H' → Q' (.int (NS.take ys.length).sum t) s') :
    wpAny (model P w) A (call (.builtin "sum") [u]) Q' E s := by
  obtain ⟨a, g, c, rfl, ha1, ha2, hg, hgs, hos, hb, hl, hkp, wake⟩ := h
  have hSa : s.heap.objs.size ≠ a := Nat.ne_of_gt ha2
  have hcl : cStatics < s.heap.objs.size := let ⟨_, hn, _⟩ := hl; hn.lt
  have hSc : s.heap.objs.size ≠ cStatics := Nat.ne_of_gt hcl
  refine call_function_tree F.kind_sum F.plain_sum F.entry_sum (F.args_sum1 _) ?_
  unfold Builtin.«sum»
  simp only [List.length_cons, List.length_nil]
  rw [if_neg (by decide)]
  refine wpAny_bind (wpAny_of_eq (show Builtin.Builtins.bindParams "sum" ["start"] 0 { } = pure [none] from rfl) ?_)
  refine wpAny_bind (wpAny_pyIter_gen hg ?_)
  refine wpAny_bind (wpAny_mkInt ?_)
  refine wpAny_bind (wpAny_pure ?_)
  simp only [List.forIn_cons, List.forIn_nil]
  refine wpAny_bind (wpAny_bind (wpAny_bind (wpAny_isInstance (T := "int") (b := false) (typeIs_int _ _ _) PySem.sub_int_str ?_)))
  simp only [Bool.false_eq_true, if_false]
  refine wpAny_pure (wpAny_bind (wpAny_bind (wpAny_isInstance (T := "int") (b := false) (typeIs_int _ _ _) PySem.sub_int_bytes ?_)))
  simp only [Bool.false_eq_true, if_false]
  refine wpAny_pure (wpAny_bind (wpAny_bind (wpAny_isInstance (T := "int") (b := false) (typeIs_int _ _ _) PySem.sub_int_bytearray ?_)))
  simp only [Bool.false_eq_true, if_false]
  refine wpAny_pure (wpAny_pure ?_)
  refine wpAny_bind (wpAny_newObj_type ?_)
  have k1 : ∀ b o, s.heap.get? b = some o → (s.heap.push { cls := .type "list", data := .seq #[Value.int 0 s.toks] }).get? b = some o := fun b o e => Heap.get?_push_of_some _ e
  have hS : (s.heap.push { cls := .type "list", data := .seq #[Value.int 0 s.toks] }).get? s.heap.objs.size = some (sumObj 0 s.toks 0) := Heap.get?_push_size _ rfl
  refine wpAny_pure ⟨plainId_quiet F.plain_sum_loop _, ?_⟩
  refine sumG (Yl := Yl) (Q := Q) (It := It) (outer := outer) (H := H) (sc := sc) (ex := ex) (g := g) (NS := NS) hbl hok hr.hd (by have := hr.dp; omega) hSa hSc (fun s' H' ys t q1 q2 q3 q4 q5 => hend s' H' ys t q1 q2 q3 q4 q5) sizeLine _ 0 s.toks 0 0 (hg.keeps k1) (hl.keeps k1) hS rfl rfl ⟨_, hgs, rfl, ?_⟩
  refine wake _ (scon s.heap.objs.size NS It) _ [(s.heap.objs.size, sumObj 0 s.toks 0)] ⟨hr.hd, ?_, ?_⟩ hfr (scon_ok _ _ _) (fun z => nomatch z) (fun _ _ h => h) (fun S hS => by rw [List.mem_singleton.mp hS]; exact Nat.le_refl _) k1 ⟨_, _, rfl⟩ (fun p hp => by rw [List.mem_singleton.mp hp]; exact hS) hos (allBare_setGen (s := { s with heap := _ }) hb rfl)
  · have := hr.dp
    show A.depth + 3 * k + 5 < _
    omega
  · have := hr.un
    show A.units + 1 + 1 + 16 * k + 200 < _
    omega
def dSumG (f : Env → Store → R Th) : DE := fun env st => (f env st).bind fun th st => (th false st).b fun xs st => match intsD xs with
  | some ns => if sumOk 0 ns = true then .ok (.int ns.sum) st else .bad
  | none => .bad
theorem ints_at : ∀ {ds : List D} {ns : List Int}, intsD ds = some ns → ∀ {j : Nat} {d : D}, ds[j]? = some d → ∃ n, ns[j]? = some n ∧ d = .int n := fun {ds ns} h {j d} e => by
  have := ints_inv h
  rw [this, List.getElem?_map] at e
  cases q : ns[j]? with
  | none => rw [q] at e; cases e
  | some n => rw [q] at e; cases e; exact ⟨n, rfl, rfl⟩
section
variable {X : Cx} {g : GC} {W : WX} {k : Nat} {pos : Pos}
theorem pd_sumG {e : Expr} {f : Env → Store → R Th} {j : Nat} {p : Pos} (O : Ok X g W k) (F : PGx X g W j e f) (hj : j + 4 ≤ k) (hm : X.mg "sum" = none) (hg : Gl X "sum" := by rfl)
    (he : starEach [e] X.env = (false, eval e X.env) :: starEach [] X.env := by rfl) : PD X g W (.Call (.Name "sum" p) [e] [] pos) (dSumG f) := by
  refine ⟨fun pins s σ H Q I ⟨μ, env, st, S, E, h⟩ => ?_⟩
  refine wpAny_Call_Name_kw (ld_blt I hg hm boot_sum ?_)
  refine PyProof.Rows.callWith_builtin1 ?_ he rfl
  rw [he]
  show wpAny _ _ (spliced ((false, eval e X.env) :: backTo pos (starEach [] X.env))) _ _ s
  refine Calls.spliced_cons (F.run pins s σ H _ μ env st false I S E ?_)
  unfold dSumG at h
  generalize f env st = r at h ⊢
  cases r with
  | ex c st1 => exact h
  | bad => exact h
  | ok th st1 =>
    intro μ1 H1 L1 S1
    have h : Post g W σ μ H ((th false st1).b fun xs st => match intsD xs with
      | some ns => if sumOk 0 ns = true then R.ok (D.int ns.sum) st else .bad
      | none => .bad) (VP g Q) := h
    cases et : th false st1 with
    | ex c st2 => rw [et] at h; exact h.elim
    | bad => rw [et] at h; exact h.elim
    | ok outs st2 =>
      rw [et] at h
      have h : Post g W σ μ H (match intsD outs with
        | some ns => if sumOk 0 ns = true then R.ok (D.int ns.sum) st2 else .bad
        | none => .bad) (VP g Q) := h
      intro u sc ex s' I1 hex hG
      refine Calls.spliced_nil ?_
      cases ei : intsD outs with
      | none => rw [ei] at h; exact h.elim
      | some ns =>
        rw [ei] at h
        have h : Post g W σ μ H (if sumOk 0 ns = true then R.ok (D.int ns.sum) st2 else .bad) (VP g Q) := h
        split at h
        · rename_i hok
          refine call_sumG (NS := ns) (fun i x hx => ?c1) hok (O.room.mono hj) I1.ok.frames hG (fun s2 H' ys t q3 q4 q5 q6 q7 => ?c2)
          case c1 =>
            obtain ⟨d, μ', H', hd, rd⟩ := hx
            obtain ⟨n, hn, ed⟩ := ints_at ei hd
            rw [ed] at rd
            exact ⟨n, hn, rd⟩
          case c2 =>
            obtain ⟨μ2, L2', S2, r2⟩ := q7
            have I2 : Inv X pins σ H' s2 := I1.call' (ch := ex) q3 q5 q6 q4 hex
            have hlen : ns.take ys.length = ns := by
              have h1 := r2.len
              have h2 := ints_inv ei
              rw [h2, List.length_map] at h1
              rw [← h1, List.take_length]
            rw [hlen]
            exact ⟨.int ns.sum, _, I2, ⟨t, rfl⟩, h μ2 H' (L1.trans L2') S2 _ rfl⟩
        · exact h.elim
end
end G

namespace G
open PySem L2 PySem.Spec PyProof.Rows GenW
/-! ### pairs of ints sorted -/
def leP (p q : Int × Int) : Bool := !SrtO.lexB q p
def insP (x : Int × Int) : List (Int × Int) → List (Int × Int)
  | [] => [x]
  | y :: r => if leP x y = true then x :: y :: r else y :: insP x r
def sortP (l : List (Int × Int)) : List (Int × Int) := l.foldr insP []
theorem leP_iff {p q : Int × Int} : leP p q = true ↔ p.1 < q.1 ∨ (p.1 = q.1 ∧ p.2 ≤ q.2) := by
  unfold leP SrtO.lexB
  by_cases h : q.1 = p.1
  · simp [h]
  · have h' : ¬ p.1 = q.1 := fun z => h z.symm
    simp [h, h']
    omega
theorem leP_total (p q : Int × Int) : leP p q = true ∨ leP q p = true := by
  rw [leP_iff, leP_iff]
  omega
theorem leP_trans (p q r : Int × Int) (h : leP p q = true) (h' : leP q r = true) : leP p r = true := by
  rw [leP_iff] at h h' ⊢
  omega
theorem leP_anti (p q : Int × Int) (h : leP p q = true) (h' : leP q p = true) : p = q := by
  rw [leP_iff] at h h'
  exact Prod.ext (by omega) (by omega)
theorem insP_perm (x : Int × Int) : ∀ l, (insP x l).Perm (x :: l)
  | [] => .refl _
  | y :: r => by
    unfold insP
    split
    · exact .refl _
    · exact ((insP_perm x r).cons y).trans (.swap x y r)
theorem sortP_perm : ∀ l, (sortP l).Perm l
  | [] => .refl _
  | x :: l => (insP_perm x _).trans ((sortP_perm l).cons x)
theorem insP_sorted (x : Int × Int) : ∀ l, l.Pairwise (leP · · = true) → (insP x l).Pairwise (leP · · = true)
  | [], _ => List.pairwise_singleton _ _
  | y :: r, h => by
    obtain ⟨h1, h2⟩ := List.pairwise_cons.mp h
    unfold insP
    split
    · rename_i c
      refine List.pairwise_cons.mpr ⟨fun z hz => ?_, h⟩
      rcases List.mem_cons.mp hz with rfl | hz
      · exact c
      · exact leP_trans _ _ _ c (h1 z hz)
    · rename_i c
      refine List.pairwise_cons.mpr ⟨fun z hz => ?_, insP_sorted x r h2⟩
      rcases List.mem_cons.mp ((insP_perm x r).mem_iff.mp hz) with rfl | hz
      · exact (leP_total z y).resolve_left c
      · exact h1 z hz
theorem sortP_sorted : ∀ l, (sortP l).Pairwise (leP · · = true)
  | [] => .nil
  | x :: l => insP_sorted x _ (sortP_sorted l)
theorem sortP_eq {ns ms : List (Int × Int)} (h : ms.Perm ns) (p : ms.Pairwise (leP · · = true)) : ms = sortP ns :=
  List.Perm.eq_of_pairwise (le := (leP · · = true)) (fun _ _ _ _ h1 h2 => leP_anti _ _ h1 h2) p (sortP_sorted ns) (h.trans (sortP_perm ns).symm)
def pairT (p : Int × Int) : D := .tup [.int p.1, .int p.2]
def pairsD : List D → Option (List (Int × Int))
  | [] => some []
  | .tup [.int i, .int j] :: r => (pairsD r).map ((i, j) :: ·)
  | _ :: _ => none
theorem pairs_inv : ∀ {ds : List D} {ps : List (Int × Int)}, pairsD ds = some ps → ds = ps.map pairT
  | [], ps, e => by cases e; rfl
  | d :: r, ps, e => by
    unfold pairsD at e
    split at e
    · cases ‹_ = []›
    · rename_i heq
      cases heq
      cases q : pairsD r with
      | none => rw [q] at e; cases e
      | some qs =>
        rw [q] at e
        cases e
        rw [List.map_cons, pairs_inv q]
        rfl
    · cases e
theorem pairs_map : ∀ ps : List (Int × Int), pairsD (ps.map pairT) = some ps
  | [] => rfl
  | p :: ps => by
    show (pairsD (ps.map pairT)).map (p :: ·) = _
    rw [pairs_map ps]
    rfl
/-- at the values -/
theorem sort_core {h : Heap} : ∀ {xs : List V} {us : List Value} {ps : List (Int × Int)}, Vals xs us → xs.length = ps.length → (∀ (i : Nat) x p, xs[i]? = some x → ps[i]? = some p → (∃ t, x = V.ref t) ∧ ∀ u, RelV x u → Srt.IsPair h u p.1 p.2) →
    ∃ k : Value → Int × Int, (∀ u ∈ us, Srt.IsPair h u (k u).1 (k u).2) ∧ xs = us.map backV ∧ ps = us.map k ∧ ∀ u ∈ us, ∃ a, u = Value.ref a := by
  classical
  intro xs us ps rv hl hp
  let k : Value → Int × Int := fun u => if q : ∃ p : Int × Int, Srt.IsPair h u p.1 p.2 then q.choose else (0, 0)
  have uniq : ∀ u (p : Int × Int), Srt.IsPair h u p.1 p.2 → k u = p := fun u p q => by
    have q0 : ∃ p : Int × Int, Srt.IsPair h u p.1 p.2 := ⟨p, q⟩
    have hk : k u = q0.choose := dif_pos q0
    obtain ⟨a, o, t, v, n, e, ho, hc, hd⟩ := q0.choose_spec
    obtain ⟨a', o', t', v', n', e', ho', hc', hd'⟩ := q
    rw [e] at e'
    cases e'
    rw [ho] at ho'
    cases ho'
    rw [hd] at hd'
    rw [hk]
    have z : #[Value.int q0.choose.1 t, Value.int q0.choose.2 v] = #[Value.int p.1 t', Value.int p.2 v'] := (Data.seq.inj hd').1
    have z2 : [Value.int q0.choose.1 t, Value.int q0.choose.2 v] = [Value.int p.1 t', Value.int p.2 v'] := congrArg Array.toList z
    injection z2 with z3 z4
    injection z4 with z5 _
    injection z3 with z6 _
    injection z5 with z7 _
    exact Prod.ext z6 z7
  refine ⟨k, ?_⟩
  clear_value k
  induction rv generalizing ps with
  | nil =>
    cases ps with
    | nil => exact ⟨(fun u hu => by cases hu), rfl, rfl, (fun u hu => by cases hu)⟩
    | cons p ps => simp at hl
  | @cons x u xs us r rv ih =>
    cases ps with
    | nil => simp at hl
    | cons p ps =>
      obtain ⟨h1, h2, h3, h4⟩ := ih (ps := ps) (by simpa using hl) fun i x p e1 e2 => hp (i + 1) x p (by simpa using e1) (by simpa using e2)
      obtain ⟨⟨t, rfl⟩, q⟩ := hp 0 x p rfl rfl
      obtain rfl : u = Value.ref t := r
      have q := q (.ref t) rfl
      have e := uniq _ _ q
      refine ⟨fun v hv => ?_, ?_, ?_, fun v hv => ?_⟩
      · rcases List.mem_cons.mp hv with rfl | hv
        · rw [e]; exact q
        · exact h1 v hv
      · rw [List.map_cons, ← h2]; rfl
      · rw [List.map_cons, ← h3, e]
      · rcases List.mem_cons.mp hv with rfl | hv
        · exact ⟨t, rfl⟩
        · exact h4 v hv
theorem reps_zip {g : GC} {μ : Mp} {H : Hp} : ∀ {ys : List V} {qs : List (Int × Int)}, ys.length = qs.length → (∀ z ∈ ys.zip qs, Rep g μ H (pairT z.2) z.1) → Reps g μ H (qs.map pairT) ys
  | [], [], _, _ => rfl
  | [], _ :: _, h, _ => by simp at h
  | _ :: _, [], h, _ => by simp at h
  | y :: ys, q :: qs, h, hz => ⟨y, ys, rfl, hz (y, q) List.mem_cons_self, reps_zip (by simpa using h) fun z m => hz z (List.mem_cons_of_mem _ m)⟩
theorem zip_reps {g : GC} {μ : Mp} {H : Hp} : ∀ {ys : List V} {qs : List (Int × Int)}, Reps g μ H (qs.map pairT) ys → ∀ z ∈ ys.zip qs, Rep g μ H (pairT z.2) z.1
  | ys, [], _, z, m => by simp at m
  | ys, q :: qs, r, z, m => by
    obtain ⟨v, vr, e, r1, r2⟩ := r
    subst e
    rcases List.mem_cons.mp m with rfl | m
    · exact r1
    · exact zip_reps r2 z m
/-- what a sort gives, at the values -/
theorem sort_out {g : GC} {μ : Mp} {H : Hp} {us out : List Value} {ps : List (Int × Int)} {k : Value → Int × Int} (h3 : ps = us.map k) (r : Reps g μ H (ps.map pairT) (us.map backV)) (hs : SrtO.Srtd (fun v u => SrtO.lexB (k v) (k u)) out) (hb : SrtO.Stb (fun v u => SrtO.lexB (k v) (k u)) out us) :
    Reps g μ H ((sortP ps).map pairT) (out.map backV) := by
  have e : out.map k = sortP ps := by
    refine sortP_eq (by rw [h3]; exact hb.perm.map k) ?_
    rw [List.pairwise_map]
    refine List.Pairwise.imp (fun {a b} q => ?_) hs
    have q : SrtO.lexB (k b) (k a) = false := q
    show (!SrtO.lexB (k b) (k a)) = true
    rw [q]
    rfl
  rw [← e]
  refine reps_zip (by simp) fun z hz => ?_
  have e2 : (out.map backV).zip (out.map k) = out.map fun u => (backV u, k u) := by rw [List.zip_map', ]
  rw [e2] at hz
  obtain ⟨u, hu, rfl⟩ := List.mem_map.mp hz
  refine zip_reps r _ ?_
  rw [h3, List.zip_map']
  exact List.mem_map.mpr ⟨u, hb.perm.mem_iff.mp hu, rfl⟩
theorem pairs_at {X : Cx} {pins : List (Addr × Obj)} {σ : L2.St} {H : Hp} {s : Shared} {g : GC} {μ : Mp} (I : Inv X pins σ H s) (hK : X.K = g.K) {ps : List (Int × Int)} {xs : List V} (r : Reps g μ H (ps.map pairT) xs) :
    xs.length = ps.length ∧ ∀ (i : Nat) x p, xs[i]? = some x → ps[i]? = some p → (∃ t, x = V.ref t) ∧ ∀ u, RelV x u → Srt.IsPair s.heap u p.1 p.2 := by
  refine ⟨by rw [← r.len, List.length_map], fun i x p e1 e2 => ?_⟩
  obtain ⟨v, e3, rv⟩ := r.get (show (ps.map pairT)[i]? = some (pairT p) by rw [List.getElem?_map, e2]; rfl)
  rw [e1] at e3
  cases e3
  obtain ⟨a, vs, ev, h1, r1⟩ := seqT_ok rv rfl
  subst ev
  refine ⟨⟨a, rfl⟩, fun u ru => ?_⟩
  obtain rfl : u = Value.ref a := ru
  obtain ⟨v1, v2, ev, q1, q2⟩ := reps2 r1
  subst ev
  have q1 : v1 = .int p.1 := q1
  have q2 : v2 = .int p.2 := q2
  subst q1 q2
  rw [← hK] at h1
  obtain ⟨its, rv2, ⟨o, ho, hc, n, hd⟩, _⟩ := I.tuple h1
  obtain ⟨u1, u2, rfl, ri, rj⟩ := vals2 rv2
  obtain ⟨t1, rfl⟩ := ri
  obtain ⟨t2, rfl⟩ := rj
  exact ⟨a, o, t1, t2, n, rfl, ho, hc, hd⟩
/-- sorted(xs), xs a list of pairs of ints -/
def rSortedPP (K : PySem.W.Frag) (g : GC) : List V → Hp → VK → Prop := fun vs H Q => ∃ (a : Addr) (xs : List V) (ps : List (Int × Int)) (μ : Mp), vs = [V.ref a] ∧ SqL K H a xs ∧ Reps g μ H (ps.map pairT) xs ∧
  ∀ ys p, Reps g μ H ((sortP ps).map pairT) ys → H p = none → Q (.ref p) (upd H p (.lst ys))
section
variable {X : Cx} {g : GC} {W : WX} {k : Nat} {pos : Pos}
theorem cr_sortedPP (hK : X.K = g.K) : CallR X (.builtin "sorted") (rSortedPP X.K g) := by
  intro pins s σ H vs us Q I r h
  obtain ⟨a, xs, ps, μ, rfl, hs, rp, q⟩ := h
  obtain ⟨its, rv, hl, hz⟩ := I.list hs
  obtain ⟨u, rfl, ru⟩ := vals1 r
  obtain rfl : u = Value.ref a := ru
  obtain ⟨hlen, hp⟩ := pairs_at I hK rp
  obtain ⟨k, k1, k2, k3, k4⟩ := sort_core rv hlen hp
  refine SrtO.sorted_pairsO (k := k) hl.isList (by rw [← rv.length]; exact hz) k1 fun h' d out h1 h2 kp hd hn => ?_
  have h3 : ∀ u ∈ out, ∃ a, u = Value.ref a := fun u hu => k4 u (h2.perm.mem_iff.mp hu)
  obtain ⟨n, hn⟩ := hn
  rw [k2] at rp
  refine ⟨.ref d, upd H d (.lst (out.map backV)), I.laid (t' := s.toks) kp hd ⟨?_, out, n, vals_back h3, hn⟩, rfl, q _ d (sort_out k3 rp h1 h2) (I.hok.fresh hd)⟩
  rw [List.length_map, h2.perm.length_eq, ← rv.length]
  exact hz
def bSortedP (b : Bool) : List D → Store → R D := fun ds st => match ds with
  | [d] => (match seqL st d with
    | some ds => (match pairsD ds with
      | some ps => mkL b ((sortP ps).map pairT) st
      | none => .bad)
    | none => .bad)
  | _ => .bad
theorem cSortedP {b : Bool} (O : Ok X g W k) : CallD X g W (.builtin "sorted") (bSortedP b) := call1 (cr_sortedPP O.hK) fun σ μ H st d v Q S r q => by
  split at q
  · rename_i ds hs
    split at q
    · rename_i ps hps
      obtain ⟨a, vs, e, h1, r1⟩ := seqL_ok S r hs
      rw [pairs_inv hps] at r1
      exact ⟨a, vs, ps, μ, by rw [e], by rw [O.hK]; exact h1, r1, fun ys p ry hp => mkL_ok S ry q hp⟩
    · exact q.elim
  · exact q.elim
end
end G

namespace G
open PySem L2 PySem.Spec PyProof.Rows GenW
/-! ### d | e of dicts -/
section
variable {prog : Program} {w : World} {K : Type} [DecidableEq K]
theorem meets_dict_or (knd : KeyKind prog w K) (d o : Addr) (hdS : (d == sysModules) = false) (hoS : (o == sysModules) = false) :
    MeetsIn prog w (Builtin.«dict.__or__» ⟨[.ref d, .ref o], []⟩) (fun _ R s => ∃ kvs more, s.heap.DictOf knd d kvs ∧ s.heap.DictOf knd o more ∧ kvs.length + more.length ≤ sizeLine ∧
      ∀ h', h'.DictOf knd s.heap.objs.size (merged kvs more) → (∀ b o, s.heap.get? b = some o → h'.get? b = some o) → R (.ok (.ret (.ref s.heap.objs.size))) { s with heap := h' }) :=
  .of_wp fun A R s ⟨kvs, more, hd, ho, hsz, h⟩ => by
    obtain ⟨od, es, ep, hod, hc, hdat, hk, hp, hn⟩ := id hd
    have hes : es.size ≤ sizeLine + 1 := by
      have e1 := hp.length
      have e2 : es.toList.length = es.size := by simp
      omega
    have hlt : o < s.heap.objs.size := by
      obtain ⟨oo, _, _, hoo, _⟩ := id ho
      exact Heap.lt_size hoo
    have hne : s.heap.objs.size ≠ o := Nat.ne_of_gt hlt
    unfold Builtin.«dict.__or__»
    refine wpAny_bind ?_
    unfold Builtin.Dict.dictSlotArgs
    refine wpAny_pure ?_
    show wpAny _ _ ((isInstance (.ref d) (.type "dict") <&&> isInstance (.ref o) (.type "dict")) >>= _) _ _ s
    refine wpAny_bind (wpAny_bind (wpAny_isInstance hd.typeIs isSubtype_dict_dict ?_))
    refine wpAny_isInstance ho.typeIs isSubtype_dict_dict ?_
    simp only [Bool.not_true, Bool.false_eq_true, if_false]
    refine wpAny_bind ?_
    have behind : ∀ es' : Array DictEntry, es' = es → wpAny (model prog w) A.in1 (holding [Value.ref s.heap.objs.size] (Builtin.Dict.addrOf (.ref s.heap.objs.size) >>= fun a => Builtin.Dict.updateFrom "dict.__or__" a (.ref o) [] (.ref s.heap.objs.size)))
        (fun fin s' => ∃ v, fin = .done (.ret v) ∧ R (.ok (.ret v)) s') (fun e s' => R (.error e) s') { s with heap := s.heap.push { cls := .type "dict", data := .dict es' } } := by
      rintro es' rfl
      have hnew : (s.heap.push { cls := .type "dict", data := .dict es' }).DictOf knd s.heap.objs.size kvs := ⟨_, es', 0, Heap.get?_push_size _ rfl, ⟨rfl, rfl, rfl⟩, rfl, hk, hp, hn⟩
      refine wpAny_holding (wpAny_bind (wpAny_pure ?_))
      unfold Builtin.Dict.updateFrom
      refine wpAny_bind (wpAny_typeOf (ho.push _).typeIs ?_)
      rw [if_neg (by decide)]
      refine wpAny_bind ?_
      unfold Builtin.Dict.merge
      refine wpAny_bind ?_
      unfold Builtin.Dict.readDirectly
      refine wpAny_bind (wpAny_isInstance (ho.push _).typeIs isSubtype_dict_dict ?_)
      simp only [Bool.not_true, Bool.false_eq_true, if_false]
      refine wpAny_bind (wpAny_specialOf (ho.push _).typeIs F.slot_dict_iter.lookup (wpAny_pure ?_))
      simp only [beq_self_eq_true, if_true]
      refine wpAny_bind (wpAny_pure ?_)
      refine wpAny_mergeDict (hsz := hsz) hne hoS hnew (ho.push _) fun h' hd' ho' hs' => ?_
      show wpAny _ _ (Builtin.Dict.addKeywords s.heap.objs.size [] >>= _) _ _ _
      exact wpAny_bind (wpAny_pure (wpAny_pure ⟨_, rfl, h h' hd' fun b ob e => hs'.extBut b ob (Nat.ne_of_lt (Heap.lt_size e)) (Heap.get?_push_of_some _ e)⟩))
    unfold Builtin.Dict.copyOf
    refine wpAny_bind (wpAny_pure ?_)
    unfold Builtin.Dict.showsAll
    rw [if_neg (by rw [hdS]; exact Bool.false_ne_true)]
    refine wpAny_bind (wpAny_pure ?_)
    refine wpAny_bind (wpAny_dictEntries hod hdat ?_)
    by_cases hemp : es.isEmpty = true
    · rw [if_pos hemp]
      refine wpAny_bind (wpAny_rule (wpAny_newObj_type ?_))
      exact behind #[] (Array.isEmpty_iff.mp hemp).symm
    · rw [if_neg hemp]
      refine wpAny_bind ?_
      unfold Builtin.Dict.readDirectly
      refine wpAny_bind (wpAny_isInstance hd.typeIs isSubtype_dict_dict ?_)
      simp only [Bool.not_true, Bool.false_eq_true, if_false]
      refine wpAny_bind (wpAny_specialOf hd.typeIs F.slot_dict_iter.lookup (wpAny_pure ?_))
      simp only [beq_self_eq_true, if_true]
      refine wpAny_bind (wpAny_entriesForEmpty (knd := knd) hod hdat hk (wpAny_newObj_type ?_ hes))
      exact behind es rfl
end
end G

namespace G
open PySem L2 PySem.Spec PyProof.Rows GenW
/-! ### d | e -/
def rOrD : R2 := fun x y H Q => ∃ a b ks ls, x = .ref a ∧ y = .ref b ∧ Rd H a (.dK ks) ∧ Rd H b (.dK ls) ∧ ks.length + ls.length ≤ sizeLine ∧ ∀ p, H p = none → Q (.ref p) (upd H p (.dK (mergeK ks ls)))
theorem op_orD {X : Cx} : OpR X (binaryOp .BitOr) rOrD := by
  intro pins s σ H x y v u Q I rx ry h
  obtain ⟨a, b, ks, ls, rfl, rfl, hA, hB, hz, q⟩ := h
  obtain rfl : v = Value.ref a := rx
  obtain rfl : u = Value.ref b := ry
  obtain ⟨_, sa, vs, ra, da⟩ := dk_rd I.hok hA
  obtain ⟨_, sb, ws, rb, db⟩ := dk_rd I.hok hB
  have la : ks.length = vs.length := Paired.length ra
  have lb : ls.length = ws.length := Paired.length rb
  refine wpAny_binaryOp_same (T := "dict") da.typeIs db.typeIs PySem.F.fills_dict_or PySem.F.slot_dict_or (call_meetsIn PySem.F.slot_dict_or da.typeIs PySem.F.entry_dict_or (PySem.F.args_dict_or_2 _ _) (meets_dict_or (mixKind X.prog X.w) a b sa sb) ⟨vs, ws, da, db, by omega, fun h' hd' k => ?_⟩)
  refine ⟨(by intro z; cases z), ?_⟩
  have hm : (s.heap.objs.size == sysModules) = false := beq_eq_false_iff_ne.mpr (Nat.ne_of_gt I.big)
  have hlen : (mergeK ks ls).length ≤ sizeLine := Nat.le_trans (length_mergeK ls ks) hz
  exact ⟨.ref s.heap.objs.size, upd H s.heap.objs.size (.dK (mergeK ks ls)), I.laid (t' := s.toks) k (Nat.le_refl _) (show ObjOk X.prog X.w _ _ _ (.dK (mergeK ks ls)) from ⟨hlen, hm, merged vs ws, KV.merge rb ra, hd'⟩), rfl, q _ (I.hok.fresh (Nat.le_refl _))⟩
def mergeD : List Key → List D → List Key → List D → List Key × List D
  | kk, vs, k :: ll, x :: ws => mergeD (putKs kk k) (putDs kk vs k x) ll ws
  | kk, vs, _, _ => (kk, vs)
theorem merge_ok {g : GC} {μ : Mp} {H : Hp} : ∀ (ll : List Key) (kk : List Key) (us ws : List V) (ds es : List D), kk.length = us.length → ll.length = ws.length → Reps g μ H ds us → Reps g μ H es ws →
    ∃ zs : List V, mergeK (kk.zip us) (ll.zip ws) = ((mergeD kk ds ll es).1).zip zs ∧ zs.length = (mergeD kk ds ll es).1.length ∧ Reps g μ H (mergeD kk ds ll es).2 zs
  | [], kk, us, ws, ds, es, h, h', r, r' => ⟨us, by cases es <;> rfl, by cases es <;> exact h.symm, by cases es <;> exact r⟩
  | k :: ll, kk, us, [], ds, es, h, h', r, r' => by simp at h'
  | k :: ll, kk, us, w :: ws, ds, [], h, h', r, r' => by cases (show (w :: ws) = [] from r')
  | k :: ll, kk, us, w :: ws, ds, e :: es, h, h', r, r' => by
    obtain ⟨v, vr, e1, r1, r2⟩ := r'
    cases e1
    obtain ⟨u2, p1, p2, p3⟩ := put_keys (g := g) kk us k w h
    obtain ⟨zs, z1, z2, z3⟩ := merge_ok ll (putKs kk k) u2 ws (putDs kk ds k e) es p2.symm (by simpa using h') (p3 ds e μ H r r1) r2
    refine ⟨zs, ?_, z2, z3⟩
    show mergeK (putK (kk.zip us) k w) (ll.zip ws) = _
    rw [p1]
    exact z1
def aOrD : D → D → Store → R D
  | .dic ks vs, .dic ls ws, st => match keysK ks, keysK ls with
    | some kk, some ll => if ks.length + ls.length ≤ 16777216 then .ok (.dic ((mergeD kk vs ll ws).1.map .k) (mergeD kk vs ll ws).2) st else .bad
    | _, _ => .bad
  | _, _, _ => .bad
theorem keysK_len : ∀ {ks : List HK} {kk : List Key}, keysK ks = some kk → kk.length = ks.length
  | [], kk, e => by cases e; rfl
  | .k x :: ks, kk, e => by
    have e : (keysK ks).map (x :: ·) = some kk := e
    cases q : keysK ks with
    | none => rw [q] at e; cases e
    | some ms => rw [q] at e; cases e; simp [keysK_len q]
  | .t x :: ks, kk, e => by cases e
theorem keysKT : ∀ {ks : List HK} {kk : List Key} {tt : List (List Key)}, keysK ks = some kk → keysT ks = some tt → tt = []
  | [], kk, tt, _, h => by cases h; rfl
  | .k x :: ks, kk, tt, _, h => by cases h
  | .t x :: ks, kk, tt, h, _ => by cases h
section
variable {X : Cx} {g : GC} {W : WX} {k : Nat} {pos : Pos} {tg : Expr}
theorem dic_k {μ : Mp} {H : Hp} {ks : List HK} {vs : List D} {v : V} {kk : List Key} (r : Rep g μ H (.dic ks vs) v) (h : keysK ks = some kk) : ∃ a us, v = .ref a ∧ Rd H a (.dK (kk.zip us)) ∧ kk.length = us.length ∧ Reps g μ H vs us := by
  obtain ⟨a, ws, o, e, n, rd, dO, hlen, rv⟩ := r
  rcases dO with ⟨kk', e1, e2⟩ | ⟨tt, e1, e2, e3⟩
  · rw [h] at e1
    cases e1
    subst e2
    exact ⟨a, ws, e, rd, by rw [keysK_len h]; exact hlen, rv⟩
  · exact absurd (keysKT h e1) e2
theorem oOrD : OpD X g W (binaryOp .BitOr) aOrD := by
  refine ⟨_, op_orD, fun σ μ H st x y v u Q S rx ry h => ?_⟩
  unfold aOrD at h
  split at h
  · rename_i ks vs ls ws
    split at h
    · rename_i kk ll e1 e2
      split at h
      · rename_i hl
        obtain ⟨a, us, ea, ra, la, r1⟩ := dic_k rx e1
        obtain ⟨b, zs, eb, rb, lb, r2⟩ := dic_k ry e2
        refine ⟨a, b, _, _, ea, eb, ra, rb, ?_, fun p hp => ?_⟩
        · rw [List.length_zip, List.length_zip, sizeLine_eq]
          have := keysK_len e1
          have := keysK_len e2
          omega
        · obtain ⟨ts, t1, t2, t3⟩ := merge_ok ll kk us zs vs ws la lb r1 r2
          rw [t1]
          have L := le_new (o := .dK ((mergeD kk vs ll ws).1.zip ts)) S hp
          exact h μ _ L (S.frz hp) _ ⟨p, ts, _, rfl, S.out hp, .inl upd_same, .inl ⟨_, keysK_map _, rfl⟩, by rw [List.length_map]; exact t2.symm, t3.le L⟩
      · exact h.elim
    · exact h.elim
  · exact h.elim
/-! ### zip of two lists, of two tuples -/
def zipD : List D → List D → List D
  | d :: ds, e :: es => .tup [d, e] :: zipD ds es
  | _, _ => []
theorem zip_get : ∀ (ds es : List D) (i : Nat) (d : D), (zipD ds es)[i]? = some d → ∃ x y, ds[i]? = some x ∧ es[i]? = some y ∧ d = .tup [x, y]
  | [], es, i, d, h => by simp [zipD] at h
  | x :: ds, [], i, d, h => by simp [zipD] at h
  | x :: ds, y :: es, 0, d, h => by
    simp [zipD] at h
    exact ⟨x, y, rfl, rfl, h.symm⟩
  | x :: ds, y :: es, i + 1, d, h => by
    obtain ⟨x', y', h1, h2, h3⟩ := zip_get ds es i d (by simpa [zipD] using h)
    exact ⟨x', y', by simpa using h1, by simpa using h2, h3⟩
theorem zip_len : ∀ (ds es : List D), ds.length ≤ (zipD ds es).length ∨ es.length ≤ (zipD ds es).length
  | [], es => .inl (Nat.zero_le _)
  | x :: ds, [] => .inr (Nat.zero_le _)
  | x :: ds, y :: es => by
    rcases zip_len ds es with h | h
    · exact .inl (by simpa [zipD] using h)
    · exact .inr (by simpa [zipD] using h)
def zipI (d e : D) (st : Store) : Option (List D) := match d, e with
  | .tup ds, .tup es => some (zipD ds es)
  | .lst ds, .lst es => some (zipD ds es)
  | _, _ => none
def dZip (f h : DE) : DI := fun env st => (f env st).bind fun d st => (h env st).bind fun e st => match zipI d e st with
  | some ds => .ok (ds, none) st
  | none => .bad
theorem i_zip {a b : Expr} {f h : DE} {p tpos : Pos} {elts : List Expr} {kk : Nat} (O : Ok X g W k) (hm : X.mg "zip" = none) (ha : PD X g W a f) (hb : PD X g W b h) (hg : Gl X "zip" := by rfl)
    (hs : starEach [a, b] X.env = (false, eval a X.env) :: starEach [b] X.env := by rfl) (hs2 : starEach [b] X.env = (false, eval b X.env) :: starEach [] X.env := by rfl) (hpl : (backTo pos (starEach [b] X.env)).any (·.1) = false := by rfl) :
    PID X g W (.Tuple elts kk tpos) (.Call (.Name "zip" p) [a, b] [] pos) (dZip f h) :=
  PI.imp (RZ.pi_zipA hg hm (L2.pa_cons ha (L2.pa_cons hb L2.pa_nil hs2) hs) hs hpl) fun σ H R ⟨μ, env, st, S, E, q⟩ => by
    refine bindE S E q fun μ1 H1 d st1 v L1 S1 E1 r1 h1 => ?_
    refine bindE S1 E1 h1 fun μ2 H2 d2 st2 v2 L2' S2 E2 r2 h2 => ?_
    have r1 := r1.le L2'
    rw [O.hK]
    cases ez : zipI d d2 st2 with
    | none => rw [ez] at h2; exact h2.elim
    | some ds =>
      rw [ez] at h2
      unfold zipI at ez
      split at ez
      · cases ez
        obtain ⟨a, vs, e, hq, rr⟩ := seqT_ok r1 rfl
        obtain ⟨b, ws, e', hq', rr'⟩ := seqT_ok r2 rfl
        refine ⟨a, b, vs, ws, by rw [e, e'], .inr ⟨hq, hq', h2.here S2 _ ?_⟩⟩
        intro μ' H' st' L S' _
        obtain ⟨a2, vs2, e2, k1, k2⟩ := seqT_ok (r1.lw L) rfl
        obtain ⟨b2, ws2, e2', k3, k4⟩ := seqT_ok (r2.lw L) rfl
        rw [e] at e2
        cases e2
        rw [e'] at e2'
        cases e2'
        refine ⟨fun i d hd => ?_, vs2, ws2, k1, k3, ?_⟩
        · obtain ⟨x, y, hx, hy, rfl⟩ := zip_get _ _ _ _ hd
          obtain ⟨v1, z1, z2⟩ := k2.get hx
          obtain ⟨v2, z3, z4⟩ := k4.get hy
          refine ⟨⟨vs2, ws2, v1, v2, k1, k3, z1, z3⟩, fun x'' H'' yl => ?_⟩
          obtain ⟨T, u1, u2, e1, hT, e3, y1, y2⟩ := yl
          have y1 := y1 vs2 k1
          have y2 := y2 ws2 k3
          rw [z1] at y1
          rw [z3] at y2
          cases y1
          cases y2
          subst e1 e3
          exact ⟨le_new S' hT, S'.frz hT, ⟨T, _, rfl, .inl ⟨S'.out hT, .inl upd_same⟩, v1, _, rfl, z2.le (le_new S' hT), v2, [], rfl, z4.le (le_new S' hT), rfl⟩⟩
        · rw [← k2.len, ← k4.len]
          exact zip_len _ _
      · cases ez
        obtain ⟨a, vs, e, hq, rr⟩ := seqL_ok S2 r1 rfl
        obtain ⟨b, ws, e', hq', rr'⟩ := seqL_ok S2 r2 rfl
        refine ⟨a, b, vs, ws, by rw [e, e'], .inl ⟨hq, hq', h2.here S2 _ ?_⟩⟩
        intro μ' H' st' L S' _
        obtain ⟨a2, vs2, e2, k1, k2⟩ := seqL_ok S' (r1.lw L) rfl
        obtain ⟨b2, ws2, e2', k3, k4⟩ := seqL_ok S' (r2.lw L) rfl
        rw [e] at e2
        cases e2
        rw [e'] at e2'
        cases e2'
        refine ⟨fun i d hd => ?_, vs2, ws2, k1, k3, ?_⟩
        · obtain ⟨x, y, hx, hy, rfl⟩ := zip_get _ _ _ _ hd
          obtain ⟨v1, z1, z2⟩ := k2.get hx
          obtain ⟨v2, z3, z4⟩ := k4.get hy
          refine ⟨⟨vs2, ws2, v1, v2, k1, k3, z1, z3⟩, fun x'' H'' yl => ?_⟩
          obtain ⟨T, u1, u2, e1, hT, e3, y1, y2⟩ := yl
          have y1 := y1 vs2 k1
          have y2 := y2 ws2 k3
          rw [z1] at y1
          rw [z3] at y2
          cases y1
          cases y2
          subst e1 e3
          exact ⟨le_new S' hT, S'.frz hT, ⟨T, _, rfl, .inl ⟨S'.out hT, .inl upd_same⟩, v1, _, rfl, z2.le (le_new S' hT), v2, [], rfl, z4.le (le_new S' hT), rfl⟩⟩
        · rw [← k2.len, ← k4.len]
          exact zip_len _ _
      · cases ez
/-! ### max(xs, default=d) -/
theorem cr_maxDf (hc : X.calm = true) : CallRK X (.builtin "max") [Str.ofString "default"] (fun vs zs H Q => ∃ (a : Addr) (ns : List Int) (z : V), vs = [V.ref a] ∧ zs = [z] ∧ SqL X.K H a (ns.map V.int) ∧ (ns = [] → Q z H) ∧ ∀ m, m ∈ ns → (∀ y, y ∈ ns → y ≤ m) → Q (.int m) H) := by
  intro pins s σ H vs zs us ws Q I r r' h
  obtain ⟨a, ns, z, rfl, rfl, hs, h0, q⟩ := h
  obtain ⟨its, rv, hl, _⟩ := I.list hs
  rw [Vals.ref1 r]
  obtain ⟨u, rfl, ru⟩ := vals1 r'
  have hi := rv.ints
  obtain ⟨xs, e⟩ := hi.allInts.items
  have hn : numsOf (intItems xs).toList = ns := by rw [← e]; exact hi.numsOf
  rw [nums_intItems] at hn
  subst hn
  have hl := hl.isList
  rw [e] at hl
  show wpAny _ _ (call (.builtin "max") [.ref a] [(Str.ofString "default", u)]) _ _ s
  refine call_max_walkD (PySem.W.iter_listW (A := X.A.in1) (I.ok.hd hc) hl fun s₂ e2 Wk st hfp hw hk => ?_)
  have hmov : ∀ s', Moved [s.heap.objs.size] (fun a b => b = a) s₂ s' → Inv X pins σ H s' := fun s' m => by
    obtain ⟨h', tk, rfl, hk'⟩ := PySem.W.moved_old e2 rfl m
    exact I.kept hk'
  refine ⟨_, _, _, _, _, _, _, s.heap, fun i j => decide (numAt xs i > numAt xs j), rfl, Wk, st, hfp, hw, hk, fun hz s' m => ?_, fun hp => ⟨?_, fun v s' hP m => ?_⟩⟩
  · have hx : xs.toList = [] := List.eq_nil_of_length_eq_zero (by simpa [intItems] using hz)
    exact ⟨z, H, hmov s' m, ru, h0 (by rw [hx]; rfl)⟩
  · exact fun i j vi vj s Q E _ hi hj h => CmpOf.ints_gt (P := fun i v => (intItems xs)[i]? = some v) (numAt xs) (fun _ _ => intItems_at) i j vi vj s Q E hi hj h
  · have hsz : 0 < xs.size := by simpa [intItems] using hp
    have hP : (intItems xs)[argBest (fun i j => decide (numAt xs i > numAt xs j)) (xs.size - 1)]? = some v := by simpa [intItems] using hP
    obtain ⟨t, rfl⟩ := intItems_at hP
    obtain ⟨h1, h2⟩ := argBest_gt (numAt xs) (xs.size - 1)
    refine ⟨.int _, H, hmov s' m, ⟨t, rfl⟩, q _ ?_ fun y hy => ?_⟩
    · rw [numAt_eq]; exact PySem.getD_mem (by rw [List.length_map, Array.length_toList]; omega)
    · obtain ⟨j, hj, rfl⟩ := mem_getD hy
      rw [List.length_map, Array.length_toList] at hj
      rw [← numAt_eq]; exact h2 j (by omega)
def dMaxDf (f h : DE) : DE := fun env st => (f env st).bind fun d st => (h env st).bind fun e st => match seqL st d with
  | some ds => (match intsD ds with
    | some [] => .ok e st
    | some (n :: ns) => .ok (.int (ns.foldl max n)) st
    | none => .bad)
  | none => .bad
theorem pd_maxDf {e d : Expr} {f h : DE} {p kpos : Pos} (O : Ok X g W k) (hm : X.mg "max" = none) (he : PD X g W e f) (hd : PD X g W d h) (hg : Gl X "max" := by rfl)
    (hs : backTo pos (starEach [e] X.env) = (false, eval e X.env) :: backTo pos (starEach [] X.env) := by rfl) (hs1 : starEach [e] X.env = (false, eval e X.env) :: starEach [] X.env := by rfl) (hpl : (backTo pos (starEach [e] X.env)).any (·.1) = false := by rfl)
    (hall : (backToKw pos (keywordEach [⟨some (Str.ofString "default"), d, kpos⟩] X.env)).all (·.1.isSome) = true := by rfl) (hnone : (backToKw pos (keywordEach [⟨some (Str.ofString "default"), d, kpos⟩] X.env)).any (·.1.isNone) = false := by rfl)
    (hks : (backToKw pos (keywordEach [⟨some (Str.ofString "default"), d, kpos⟩] X.env)).filterMap (·.1) = [Str.ofString "default"] := by rfl) :
    PD X g W (.Call (.Name "max" p) [e] [⟨some (Str.ofString "default"), d, kpos⟩] pos) (dMaxDf f h) :=
  PE.imp (pe_callBK (cr_maxDf O.calm) hg hm PyProof.Rows.boot_max (L2.pa_cons he L2.pa_nil hs1) (pk_cons hd pk_nil) (by decide) (by decide) hs hpl hall hnone hks) fun σ H Q ⟨μ, env, st, S, E, q⟩ => by
    refine bindE S E q fun μ1 H1 dd st1 v L1 S1 E1 r1 h1 => ?_
    refine bindE S1 E1 h1 fun μ2 H2 d2 st2 v2 L2' S2 E2 r2 h2 => ?_
    have r1 := r1.le L2'
    rw [O.hK]
    split at h2
    · rename_i ds hds
      obtain ⟨a, vs, ea, hq, rr⟩ := seqL_ok S2 r1 hds
      split at h2
      · rename_i hi
        have e2 := ints_ok hi rr
        subst e2
        exact ⟨a, [], v2, by rw [ea], rfl, hq, fun _ => h2.here S2 _ r2, fun m hm => nomatch hm⟩
      · rename_i n ns hi
        have e2 := ints_ok hi rr
        subst e2
        obtain ⟨f1, f2, f3⟩ := foldl_max ns n
        refine ⟨a, n :: ns, v2, by rw [ea], rfl, hq, fun z => (nomatch z), fun x hx hy => ?_⟩
        have hx1 : ns.foldl max n ∈ n :: ns := f1.elim (fun z => by rw [z]; exact List.mem_cons_self) (List.mem_cons_of_mem _)
        have a1 := hy _ hx1
        have a2 : x ≤ ns.foldl max n := (List.mem_cons.mp hx).elim (fun z => by rw [z]; exact f2) (f3 x)
        rw [show x = ns.foldl max n by omega]
        exact h2.here S2 _ rfl
      · exact h2.elim
    · exact h2.elim
end
end G

namespace G
open PySem L2 PySem.Spec PyProof.Rows GenW
/-! ### a < b < c < d, as a test -/
def tChain3 (r r' r'' : R2) (ta tb tc td : TE) : TE := fun σ H Q => ta σ H fun x H1 => tb σ H1 fun y H2 => r x y H2 fun z H3 => ∃ k, z = .bl k ∧
  (if k = true then tc σ H3 fun w H4 => r' y w H4 fun z2 H5 => ∃ k2, z2 = .bl k2 ∧ (if k2 = true then td σ H5 fun u H6 => r'' w u H6 Q else Q (.bl false) H5) else Q (.bl false) H3)
def dChain3 (h h' h'' : D → D → Store → R D) (fa fb fc fd : DE) : DE := fun env st => (fa env st).bind fun x st => (fb env st).bind fun y st => (h x y st).bind fun z st => match z with
  | .bl true => (fc env st).bind fun w st => (h' y w st).bind fun z2 st => (match z2 with
    | .bl true => (fd env st).bind fun u st => h'' w u st
    | .bl false => .ok (.bl false) st
    | _ => .bad)
  | .bl false => .ok (.bl false) st
  | _ => .bad
section
variable {X : Cx} {g : GC} {W : WX} {k : Nat} {pos : Pos}
theorem pt_chain3L {op op' op'' : CmpOp} {r r' r'' : R2} {a b c d : Expr} {ta tb tc td : TE} (ho : OpR X (compareOp op) r) (ho' : OpR X (compareOp op') r') (ho'' : OpR X (compareOp op'') r'') (ha : PE X a ta) (hb : PE X b tb) (hc : PE X c tc) (hd : PE X d td)
    (hm : lastMarks [op, op', op''] [b, c, d] = false := by with_unfolding_all rfl) : PT X (.Compare a [op, op', op''] [b, c, d] pos) (tTest (tChain3 r r' r'' ta tb tc td)) := by
  refine ⟨fun pins s σ H Q I h => ?_⟩
  refine isTrue_chain (thn (ha.run pins s σ H _ I h) fun v s1 ⟨x, H1, I1, r1, q1⟩ => test_link (thn (hb.run pins s1 σ H1 _ I1 q1) fun u s2 ⟨y, H2, I2, r2, q2⟩ =>
    thn (ho pins s2 σ H2 x y v u _ I2 r1 r2 q2) fun d s3 ⟨z, H3, I3, r3, k, e, q3⟩ => ?_)) hm
  subst e
  cases r3
  refine wpAny_truthy_bool ?_
  cases k with
  | false =>
    obtain ⟨k', e', q'⟩ := q3
    cases e'
    exact ite_ff ⟨H3, I3, q'⟩
  | true =>
    refine ite_tt (test_link (thn (hc.run pins s3 σ H3 _ I3 q3) fun w' s4 ⟨z', H4, I4, r4, q4⟩ => thn (ho' pins s4 σ H4 y z' u w' _ I4 r2 r4 q4) fun d' s5 ⟨z2, H5, I5, r5, k2, e2, q5⟩ => ?_))
    subst e2
    cases r5
    refine wpAny_truthy_bool ?_
    cases k2 with
    | false =>
      obtain ⟨k', e', q'⟩ := q5
      cases e'
      exact ite_ff ⟨H5, I5, q'⟩
    | true =>
      refine ite_tt (test_last (thn (hd.run pins s5 σ H5 _ I5 q5) fun w6 s6 ⟨z6, H6, I6, r6, q6⟩ => thn (ho'' pins s6 σ H6 z' z6 w' w6 _ I6 r4 r6 q6) fun d7 s7 ⟨z7, H7, I7, r7, k7, e7, q7⟩ => ?_))
      subst e7
      cases r7
      exact wpAny_truthy_bool ⟨H7, I7, q7⟩
theorem dChain3_ok {r r' r'' : R2} {h h' h'' : D → D → Store → R D} {fa fb fc fd : DE} (hr : RV g W r h) (hr' : RV g W r' h') (hr'' : RV g W r'' h'') {σ : L2.St} {H : Hp} {Q : VK} (q : tDE g W (dChain3 h h' h'' fa fb fc fd) σ H Q) : tChain3 r r' r'' (tDE g W fa) (tDE g W fb) (tDE g W fc) (tDE g W fd) σ H Q := by
  obtain ⟨μ, env, st, S, E, h0⟩ := q
  refine bindE S E h0 fun μ1 H1 d st1 v L1 S1 E1 r1 h1 => ?_
  refine bindE S1 E1 h1 fun μ2 H2 d2 st2 v2 L2 S2 E2 r2 h2 => ?_
  refine hr σ μ2 H2 st2 d d2 v v2 _ S2 (r1.le L2) r2 ?_
  generalize h d d2 st2 = rr at h2 ⊢
  cases rr with
  | ex c st => exact h2
  | bad => exact h2
  | ok z st3 =>
    intro μ3 H3 L3 S3 w rw_
    have h3 := Post.le L3 h2
    cases z with
    | bl b =>
      refine ⟨b, rw_, ?_⟩
      cases b with
      | false =>
        rw [if_neg Bool.false_ne_true]
        exact h3.here S3 _ rfl
      | true =>
        rw [if_pos rfl]
        refine bindE S3 (E2.le L3) h3 fun μ4 H4 d4 st4 v4 L4 S4 E4 r4 h4 => ?_
        refine hr' σ μ4 H4 st4 d2 d4 v2 v4 _ S4 ((r2.le L3).le L4) r4 ?_
        generalize h' d2 d4 st4 = rr at h4 ⊢
        cases rr with
        | ex c st => exact h4
        | bad => exact h4
        | ok z st5 =>
          intro μ5 H5 L5 S5 w5 rw5
          have h5 := Post.le L5 h4
          cases z with
          | bl b =>
            refine ⟨b, rw5, ?_⟩
            cases b with
            | false =>
              rw [if_neg Bool.false_ne_true]
              exact h5.here S5 _ rfl
            | true =>
              rw [if_pos rfl]
              refine bindE S5 (E4.le L5) h5 fun μ6 H6 d6 st6 v6 L6 S6 E6 r6 h6 => ?_
              exact hr'' σ μ6 H6 st6 d4 d6 v4 v6 _ S6 ((r4.le L5).le L6) r6 h6
          | _ => exact h5.elim
    | _ => exact h3.elim
theorem pt_chain3 {a b c d : Expr} {fa fb fc fd : DE} {op op' op'' : CmpOp} {h h' h'' : D → D → Store → R D} (ho : OpD X g W (compareOp op) h) (ho' : OpD X g W (compareOp op') h') (ho'' : OpD X g W (compareOp op'') h'') (ha : PD X g W a fa) (hb : PD X g W b fb) (hc : PD X g W c fc) (hd : PD X g W d fd)
    (hm : lastMarks [op, op', op''] [b, c, d] = false := by with_unfolding_all rfl) : PTD X g W (.Compare a [op, op', op''] [b, c, d] pos) (dB (dChain3 h h' h'' fa fb fc fd)) := by
  obtain ⟨r, h1, h2⟩ := ho
  obtain ⟨r', h1', h2'⟩ := ho'
  obtain ⟨r'', h1'', h2''⟩ := ho''
  exact PT.imp (pt_chain3L h1 h1' h1'' ha hb hc hd hm) fun σ H Q q => dChain3_ok h2 h2' h2'' (dB_ok q)
/-! ### sorted(a generator expression of pairs of ints) -/
def dSortG (b : Bool) (f : Env → Store → R Th) : DE := fun env st => (f env st).bind fun th st => (th false st).b fun xs st => match pairsD xs with
  | some ps => mkL b ((sortP ps).map pairT) st
  | none => .bad
theorem pd_sortG (b : Bool) {e : Expr} {f : Env → Store → R Th} {j : Nat} {p : Pos} (O : Ok X g W k) (F : PGx X g W j e f) (hj : j + 4 ≤ k) (hm : X.mg "sorted" = none) (hg : Gl X "sorted" := by rfl)
    (he : starEach [e] X.env = (false, eval e X.env) :: starEach [] X.env := by rfl) : PD X g W (.Call (.Name "sorted" p) [e] [] pos) (dSortG b f) := by
  refine ⟨fun pins s σ H Q I ⟨μ, env, st, S, E, h⟩ => ?_⟩
  refine wpAny_Call_Name_kw (ld_blt I hg hm boot_sorted ?_)
  refine PyProof.Rows.callWith_builtin1 ?_ he rfl
  rw [he]
  show wpAny _ _ (spliced ((false, eval e X.env) :: backTo pos (starEach [] X.env))) _ _ s
  refine Calls.spliced_cons (F.run pins s σ H _ μ env st false I S E ?_)
  unfold dSortG at h
  generalize f env st = r at h ⊢
  cases r with
  | ex c st1 => exact h
  | bad => exact h
  | ok th st1 =>
    intro μ1 H1 L1 S1
    have h : Post g W σ μ H ((th false st1).b fun xs st => match pairsD xs with
      | some ps => mkL b ((sortP ps).map pairT) st
      | none => .bad) (VP g Q) := h
    cases et : th false st1 with
    | ex c st2 => rw [et] at h; exact h.elim
    | bad => rw [et] at h; exact h.elim
    | ok outs st2 =>
      rw [et] at h
      have h : Post g W σ μ H (match pairsD outs with
        | some ps => mkL b ((sortP ps).map pairT) st2
        | none => .bad) (VP g Q) := h
      intro u sc ex s' I1 hex hG
      refine Calls.spliced_nil ?_
      cases ei : pairsD outs with
      | none => rw [ei] at h; exact h.elim
      | some ps =>
        rw [ei] at h
        have h : Post g W σ μ H (mkL b ((sortP ps).map pairT) st2) (VP g Q) := h
        refine Calls.call_function_entry PyProof.Rows.kind_sorted PyProof.Rows.plain_sorted PyProof.Rows.entry_sorted (PyProof.Rows.args_sorted1 _) ?_
        unfold Builtin.«sorted»
        refine wpAny_bind (m := checkCount "sorted" 1 1 _) (wpAny_pure ?_)
        have hr := O.room.mono hj
        refine wpAny_bind (collectG (A := X.A.in1) ⟨hr.hd, ?_, ?_⟩ I1.ok.frames hG fun s2 us H' ys q1 q2 q3 q4 q5 q6 q7 => ?_)
        · have := hr.dp
          show X.A.depth + 3 * (j + 3) + 5 < _
          omega
        · have := hr.un
          show X.A.units + 1 + 16 * (j + 3) + 200 < _
          omega
        obtain ⟨μ2, L2', S2, r2⟩ := q7
        have I2 : Inv X pins σ H' s2 := I1.call' (ch := ex) q3 q5 q6 q4 hex
        rw [pairs_inv ei] at r2
        obtain ⟨hlen, hp⟩ := pairs_at I2 O.hK r2
        obtain ⟨kf, k1, k2, k3, k4⟩ := sort_core q1 hlen hp
        have hus : us.length ≤ sizeLine := by rw [← q1.length]; exact q2
        refine wpAny_bind (wpAny_newList ?_ hus)
        have hob : (s2.heap.push { cls := .type "list", data := .seq us.toArray }).get? s2.heap.objs.size = some (PyProof.Rows.seqObj "list" us.toArray 0) := Heap.get?_push_size _ rfl
        have kp : ∀ b o, s2.heap.get? b = some o → (s2.heap.push { cls := .type "list", data := .seq us.toArray }).get? b = some o := fun b o e => Heap.get?_push_of_some _ e
        refine wpAny_bind (wpAny_holding (wpAny_call_entry PyProof.Rows.slot_list_sort ⟨_, hob, rfl⟩ PyProof.Rows.entry_list_sort (SrtO.list_sort_ord (SrtO.swo_lex kf) hob hus (fun h2 => SrtO.pairs_sortableO (by omega) (fun v hv => (k1 v hv).keeps fun b o e _ => kp b o e) fun o e c => ?_) fun out hs hb => ⟨_, rfl, ?_⟩) (PyProof.Rows.args_list_sort _)))
        · rw [hob] at e
          cases e
          exact absurd (Value.type.inj c) (by decide)
        · obtain ⟨n, hn⟩ := PyProof.Rows.sortedHeap_at (vs := us) (out := out.toArray) hob
          have h3 : ∀ u ∈ out, ∃ a, u = Value.ref a := fun u hu => k4 u (hb.perm.mem_iff.mp hu)
          rw [k2] at r2
          have hout := sort_out k3 r2 hs hb
          refine wpAny_pure ⟨_, rfl, ?_⟩
          have keep : ∀ b o, s2.heap.get? b = some o → (PyProof.Rows.sortedHeap (s2.heap.push { cls := .type "list", data := .seq us.toArray }) s2.heap.objs.size us out.toArray).get? b = some o := fun b o e => by
            rw [PyProof.Rows.sortedHeap_old (Nat.ne_of_lt (Heap.lt_size e)) (Heap.lt_size (kp b o e))]
            exact kp b o e
          have hlen2 : (out.map backV).length ≤ sizeLine := by rw [List.length_map, hb.perm.length_eq]; exact hus
          have I3 : Inv X pins σ (upd H' s2.heap.objs.size (.lst (out.map backV))) { s2 with heap := PyProof.Rows.sortedHeap (s2.heap.push { cls := .type "list", data := .seq us.toArray }) s2.heap.objs.size us out.toArray } :=
            I2.laid (t' := s2.toks) keep (Nat.le_refl _) (show ObjOk X.prog X.w _ _ _ (.lst (out.map backV)) from ⟨hlen2, out, n, vals_back h3, hn⟩)
          exact ⟨.ref s2.heap.objs.size, _, I3, rfl, mkL_ok S2 hout (Post.le (L1.trans L2') h) (I2.hok.fresh (Nat.le_refl _))⟩
end
end G

namespace G
open PySem L2 PySem.Spec PyProof.Rows GenW
/-! ### sorted of a tuple, too -/
section
variable {X : Cx} {g : GC} {W : WX} {k : Nat} {pos : Pos} {pins : List (Addr × Obj)} {σ : L2.St} {H : Hp} {s : Shared} {A : Around} {E : Value → Shared → Prop}
theorem coll_any {a : Addr} {us : List Value} {T : String} {o : Obj} {n : Nat} {Q : List Value → Shared → Prop} (hT : T = "list" ∨ T = "tuple") (ho : s.heap.get? a = some o) (hc : o.cls = .type T) (hd : o.data = .seq us.toArray n) (hz : us.length ≤ sizeLine)
    (h : ∀ h' : Heap, (∀ b ob, s.heap.get? b = some ob → h'.get? b = some ob) → Q us { s with heap := h' }) : wpAny (model X.prog X.w) A (collect (.ref a)) Q E s := by
  unfold collect
  refine wpAny_bind (wpAny_runValue (codeAny_builtin PySem.F.entry_proto_collect ?_))
  rw [Around.under_plainId PySem.F.plain_proto_collect _]
  show wpAny _ A.in1 (newList [] >>= fun l => again (.builtin "list.__iadd__" ⟨[l, .ref a], []⟩)) _ _ s
  refine wpAny_bind (wpAny_newObj_type ?_)
  refine wpAny_pure ⟨plainId_quiet PySem.F.plain_list_iadd _, codeAny_builtin PySem.F.entry_list_iadd ?_⟩
  rw [Around.under_plainId PySem.F.plain_list_iadd _]
  show wpAny _ A.in1 (Builtin.List.listExtendWith (.ref s.heap.objs.size) (.ref a) (.ref s.heap.objs.size)) _ _ _
  have ho' : (s.heap.push { cls := .type "list", data := .seq ([] : List Value).toArray }).get? a = some o := Heap.get?_push_of_some _ ho
  have hS : (s.heap.push { cls := .type "list", data := .seq ([] : List Value).toArray }).get? s.heap.objs.size = some { cls := .type "list", data := .seq ([] : List Value).toArray } := Heap.get?_push_size _ rfl
  unfold Builtin.List.listExtendWith
  refine wpAny_bind (wpAny_typeOf (T := T) ⟨o, ho', hc⟩ ?_)
  rw [if_pos (by rcases hT with rfl | rfl <;> simp)]
  refine wpAny_bind (listItems_at ho' hd ?_)
  refine wpAny_bind (listItems_at (xs := #[]) (n := 0) hS rfl ?_)
  rw [if_neg (by simp)]
  refine wpAny_bind (listUpdate_at (xs := #[]) (n := 0) hS rfl ?_ (Nat.zero_le _) (by show (#[] ++ us.toArray).size ≤ sizeLine + 1; simp only [Array.size_append, List.size_toArray, List.length_nil]; omega))
  refine wpAny_pure ?_
  show wpAny (model X.prog X.w) A (load s.heap.objs.size >>= _) Q E _
  refine wpAny_bind (wpAny_load (get?_update_seq hS _) ?_)
  show wpAny _ _ (pure ((#[] : Array Value) ++ us.toArray).toList) Q E _
  rw [show ((#[] : Array Value) ++ us.toArray).toList = us by simp]
  refine wpAny_pure (h _ fun b ob e => ?_)
  rw [Heap.get?_update_ne _ _ _ _ (Nat.ne_of_lt (Heap.lt_size e))]
  exact Heap.get?_push_of_some _ e
theorem coll_ok {a : Addr} {xs : List V} {Q : List Value → Shared → Prop} (I : Inv X pins σ H s) (hq : SqL X.K H a xs ∨ SqT X.K H a xs) (h : ∀ us s', Vals xs us → xs.length ≤ sizeLine → Inv X pins σ H s' → Q us s') : wpAny (model X.prog X.w) A (collect (.ref a)) Q E s := by
  rcases hq with hq | hq
  · obtain ⟨its, r', pl, hz⟩ := I.list hq
    obtain ⟨o, ho, hc, n, hd⟩ := pl.isList
    exact coll_any (.inl rfl) ho hc hd (by rw [← r'.length]; exact hz) fun h' kp => h its _ r' hz (I.kept (t' := s.toks) kp)
  · obtain ⟨its, r', pl, hz⟩ := I.tuple hq
    obtain ⟨o, ho, hc, n, hd⟩ := pl
    exact coll_any (.inr rfl) ho hc hd (by rw [← r'.length]; exact hz) fun h' kp => h its _ r' hz (I.kept (t' := s.toks) kp)
theorem tail_pairs {μ : Mp} {ys : List V} {us : List Value} {ps : List (Int × Int)} {Q : VK} (I : Inv X pins σ H s) (hK : X.K = g.K) (q1 : Vals ys us) (q2 : ys.length ≤ sizeLine) (r : Reps g μ H (ps.map pairT) ys)
    (h : ∀ zs p, Reps g μ H ((sortP ps).map pairT) zs → H p = none → Q (.ref p) (upd H p (.lst zs))) :
    wpAny (model X.prog X.w) A (newList us >>= fun l => holding [l] (call (.builtin "list.sort") [l] []) >>= fun _ => ret l) (fun fin s' => ∃ v, fin = .done (.ret v) ∧ EP X pins σ Q v s') E s := by
  obtain ⟨hlen, hp⟩ := pairs_at I hK r
  obtain ⟨kf, k1, k2, k3, k4⟩ := sort_core q1 hlen hp
  have hus : us.length ≤ sizeLine := by rw [← q1.length]; exact q2
  refine wpAny_bind (wpAny_newList ?_ hus)
  have hob : (s.heap.push { cls := .type "list", data := .seq us.toArray }).get? s.heap.objs.size = some (PyProof.Rows.seqObj "list" us.toArray 0) := Heap.get?_push_size _ rfl
  have kp : ∀ b o, s.heap.get? b = some o → (s.heap.push { cls := .type "list", data := .seq us.toArray }).get? b = some o := fun b o e => Heap.get?_push_of_some _ e
  refine wpAny_bind (wpAny_holding (wpAny_call_entry PyProof.Rows.slot_list_sort ⟨_, hob, rfl⟩ PyProof.Rows.entry_list_sort (SrtO.list_sort_ord (SrtO.swo_lex kf) hob hus (fun h2 => SrtO.pairs_sortableO (by omega) (fun v hv => (k1 v hv).keeps fun b o e _ => kp b o e) fun o e c => ?_) fun out hs hb => ⟨_, rfl, ?_⟩) (PyProof.Rows.args_list_sort _)))
  · rw [hob] at e
    cases e
    exact absurd (Value.type.inj c) (by decide)
  · obtain ⟨n, hn⟩ := PyProof.Rows.sortedHeap_at (vs := us) (out := out.toArray) hob
    have h3 : ∀ u ∈ out, ∃ a, u = Value.ref a := fun u hu => k4 u (hb.perm.mem_iff.mp hu)
    rw [k2] at r
    have hout := sort_out k3 r hs hb
    refine wpAny_pure ⟨_, rfl, ?_⟩
    have keep : ∀ b o, s.heap.get? b = some o → (PyProof.Rows.sortedHeap (s.heap.push { cls := .type "list", data := .seq us.toArray }) s.heap.objs.size us out.toArray).get? b = some o := fun b o e => by
      rw [PyProof.Rows.sortedHeap_old (Nat.ne_of_lt (Heap.lt_size e)) (Heap.lt_size (kp b o e))]
      exact kp b o e
    have hlen2 : (out.map backV).length ≤ sizeLine := by rw [List.length_map, hb.perm.length_eq]; exact hus
    exact ⟨.ref s.heap.objs.size, _, I.laid (t' := s.toks) keep (Nat.le_refl _) (show ObjOk X.prog X.w _ _ _ (.lst (out.map backV)) from ⟨hlen2, out, n, vals_back h3, hn⟩), rfl, h _ _ hout (I.hok.fresh (Nat.le_refl _))⟩
theorem tail_ints {us : List Value} {ns : List Int} {Q : VK} (I : Inv X pins σ H s) (q1 : Vals (ns.map V.int) us) (q2 : (ns.map V.int).length ≤ sizeLine)
    (h : ∀ p, H p = none → Q (.ref p) (upd H p (.lst ((sortI ns).map V.int)))) :
    wpAny (model X.prog X.w) A (newList us >>= fun l => holding [l] (call (.builtin "list.sort") [l] []) >>= fun _ => ret l) (fun fin s' => ∃ v, fin = .done (.ret v) ∧ EP X pins σ Q v s') E s := by
  have hi := q1.ints
  have hus : us.length ≤ sizeLine := by rw [← q1.length]; exact q2
  refine wpAny_bind (wpAny_newList ?_ hus)
  have hob : (s.heap.push { cls := .type "list", data := .seq us.toArray }).get? s.heap.objs.size = some (PyProof.Rows.seqObj "list" us.toArray 0) := Heap.get?_push_size _ rfl
  have kp : ∀ b o, s.heap.get? b = some o → (s.heap.push { cls := .type "list", data := .seq us.toArray }).get? b = some o := fun b o e => Heap.get?_push_of_some _ e
  refine wpAny_bind (wpAny_holding (wpAny_call_entry PyProof.Rows.slot_list_sort ⟨_, hob, rfl⟩ PyProof.Rows.entry_list_sort (SrtO.list_sort_ord SrtO.swo_int hob hus (fun h2 => SrtO.ints_sortable hi h2) fun out hs hb => ⟨_, rfl, ?_⟩) (PyProof.Rows.args_list_sort _)))
  obtain ⟨n, hn⟩ := PyProof.Rows.sortedHeap_at (vs := us) (out := out.toArray) hob
  obtain ⟨i1, i2, i3⟩ := SrtO.ints_out hi hs hb
  rw [sortI_eq i2 i3] at i1
  refine wpAny_pure ⟨_, rfl, ?_⟩
  have keep : ∀ b o, s.heap.get? b = some o → (PyProof.Rows.sortedHeap (s.heap.push { cls := .type "list", data := .seq us.toArray }) s.heap.objs.size us out.toArray).get? b = some o := fun b o e => by
    rw [PyProof.Rows.sortedHeap_old (Nat.ne_of_lt (Heap.lt_size e)) (Heap.lt_size (kp b o e))]
    exact kp b o e
  have hlen2 : ((sortI ns).map V.int).length ≤ sizeLine := by
    rw [List.length_map, (sortI_perm ns).length_eq]
    rw [List.length_map] at q2
    exact q2
  exact ⟨.ref s.heap.objs.size, _, I.laid (t' := s.toks) keep (Nat.le_refl _) (show ObjOk X.prog X.w _ _ _ (.lst ((sortI ns).map V.int)) from ⟨hlen2, out, n, vals_of_ints i1, hn⟩), rfl, h _ (I.hok.fresh (Nat.le_refl _))⟩
def rSortA (K : PySem.W.Frag) (g : GC) : List V → Hp → VK → Prop := fun vs H Q => ∃ (a : Addr) (xs : List V), vs = [V.ref a] ∧ (SqL K H a xs ∨ SqT K H a xs) ∧
  ((∃ ns : List Int, xs = ns.map V.int ∧ ∀ p, H p = none → Q (.ref p) (upd H p (.lst ((sortI ns).map V.int)))) ∨
   (∃ (μ : Mp) (ps : List (Int × Int)), Reps g μ H (ps.map pairT) xs ∧ ∀ zs p, Reps g μ H ((sortP ps).map pairT) zs → H p = none → Q (.ref p) (upd H p (.lst zs))))
theorem cr_sortA (hK : X.K = g.K) : CallR X (.builtin "sorted") (rSortA X.K g) := by
  intro pins s σ H vs us Q I r h
  obtain ⟨a, xs, rfl, hs, q⟩ := h
  obtain ⟨u, rfl, ru⟩ := vals1 r
  obtain rfl : u = Value.ref a := ru
  refine Calls.call_function_entry PyProof.Rows.kind_sorted PyProof.Rows.plain_sorted PyProof.Rows.entry_sorted (PyProof.Rows.args_sorted1 _) ?_
  unfold Builtin.«sorted»
  refine wpAny_bind (m := checkCount "sorted" 1 1 _) (wpAny_pure ?_)
  refine wpAny_bind (coll_ok I hs fun us s2 q1 q2 I2 => ?_)
  rcases q with ⟨ns, rfl, q⟩ | ⟨μ, ps, rp, q⟩
  · exact tail_ints I2 q1 q2 q
  · exact tail_pairs I2 hK q1 q2 rp q
def bSortedA (b : Bool) : List D → Store → R D := fun ds st => match ds with
  | [d] => (match seqA st d with
    | some ds => (match intsD ds with
      | some ns => mkL b ((sortI ns).map .int) st
      | none => (match pairsD ds with
        | some ps => mkL b ((sortP ps).map pairT) st
        | none => .bad))
    | none => .bad)
  | _ => .bad
theorem cSortedA {b : Bool} (O : Ok X g W k) : CallD X g W (.builtin "sorted") (bSortedA b) := call1 (cr_sortA O.hK) fun σ μ H st d v Q S r q => by
  split at q
  · rename_i ds hs
    obtain ⟨a, vs, e, h1, r1⟩ := seqA_ok S r hs
    rw [O.hK]
    split at q
    · rename_i ns hn
      exact ⟨a, vs, by rw [e], h1, .inl ⟨ns, ints_ok hn r1, fun p hp => mkL_ok S (reps_ints _) q hp⟩⟩
    · split at q
      · rename_i ps hps
        rw [pairs_inv hps] at r1
        exact ⟨a, vs, by rw [e], h1, .inr ⟨μ, ps, r1, fun zs p rz hp => mkL_ok S rz q hp⟩⟩
      · exact q.elim
  · exact q.elim
/-! ### list(range(n)) -/
def tRg1' (ta : TA) : L2.St → Hp → (Int → Int → Int → Hp → Prop) → Prop := fun σ H Q => ta σ H fun vs H1 => ∃ j, vs = [.int j] ∧ Q 0 j 1 H1
theorem prg_1' {a : Expr} {ta : TA} {p pos : Pos} (hg : Gl X "range") (hm : X.mg "range" = none) (ha : PA X [a] ta) (hs : starEach [a] X.env = (false, eval a X.env) :: starEach [] X.env := by rfl) : PRg3 X (.Call (.Name "range" p) [a] [] pos) (tRg1' ta) := by
  intro pins s σ H Q I h
  refine Call_ (ld_blt I hg hm boot_range (PyProof.Rows.callWith_type1 (thn (ha.run pos pins s σ H _ I h) fun us s1 ⟨vs, H1, I1, r1, q1⟩ => ?_) hs rfl))
  obtain ⟨j, e, q⟩ := q1
  subst e
  obtain ⟨u, rfl, ru⟩ := vals1 r1
  obtain ⟨t, rfl⟩ := ru
  exact call_range_1 ⟨_, 0, j, 1, _, _, _, H1, rfl, IsRange.new _ _ _ _ _ _ _, I1.kept fun b o e => Heap.get?_push_of_some _ e, q⟩
def dListR1 (b : Bool) (f : DE) : DE := fun env st => (f env st).bind fun e st => (rng3 (.int 0) e (.int 1) st).bind fun ds st => mkL b ds st
theorem pd_listR1 {a : Expr} {f : DE} {lf : Bool} {p p2 pos2 : Pos} (O : Ok X g W k) (hm : X.mg "range" = none) (hml : X.mg "list" = none) (ha : PD X g W a f) (hg : Gl X "range" := by rfl) (hgl : Gl X "list" := by rfl)
    (hs : starEach [a] X.env = (false, eval a X.env) :: starEach [] X.env := by rfl) (na : starEach [.Call (.Name "range" p2) [a] [] pos2] X.env = (false, eval (.Call (.Name "range" p2) [a] [] pos2) X.env) :: starEach [] X.env := by rfl) :
    PD X g W (.Call (.Name "list" p) [.Call (.Name "range" p2) [a] [] pos2] [] pos) (dListR1 lf f) :=
  PE.imp (pe_listRg3 O.calm hgl hml (prg_1' hg hm (L2.pa_cons ha L2.pa_nil hs) hs) na) fun σ H Q ⟨μ, env, st, S, E, q⟩ => by
    refine bindE S E q fun μ1 H1 d st1 v L1 S1 E1 r1 h1 => ?_
    obtain ⟨i, j, c, e0, rfl, e, hj, hz, h3⟩ := rng3_inv h1
    cases e0
    cases e
    obtain ⟨z1, z2, z3, z4⟩ := rgOk_ok hj
    exact ⟨j, by rw [show v = V.int j from r1], _, z3, z4, hz, fun q hq => mkL_ok S1 (reps_rng _ _ _) h3 hq⟩
end
end G

namespace G
open PySem
/-! ### one step at a time -/
section
variable {env env' : Env} {st st' st'' : Store}
theorem bin_run {h : D → D → Store → R D} {fa fb : DE} {x y : D} {r : R D} (h1 : fa env st = .ok x st') (h2 : fb env st' = .ok y st'') (h3 : h x y st'' = r) : dBin h fa fb env st = r := by
  unfold dBin; rw [h1, R.bind_ok, h2, R.bind_ok, h3]
theorem b_run {f : DE} {b : Bool} (h : f env st = .ok (.bl b) st') : dB f env st = .ok b st' := by
  unfold dB; rw [h]; rfl
theorem tru_run {f : DE} {d : D} {b : Bool} (h : f env st = .ok d st') (ht : truD st' d = some b) : dTru f env st = .ok b st' := by
  unfold dTru; rw [h, R.bind_ok, ht]
theorem not_run {f : DT} {b : Bool} (h : f env st = .ok b st') : dNot f env st = .ok (!b) st' := by
  unfold dNot; rw [h]; rfl
theorem and_run {fa fb : DT} {x y : Bool} (h1 : fa env st = .ok x st) (h2 : x = true → fb env st = .ok y st) : dAnd fa fb env st = .ok (x && y) st := by
  unfold dAnd; rw [h1, R.bind_ok]
  cases x with
  | true => rw [if_pos rfl, h2 rfl]; rfl
  | false => rfl
theorem or_run {fa fb : DT} {x y : Bool} (h1 : fa env st = .ok x st) (h2 : x = false → fb env st = .ok y st) : dOr fa fb env st = .ok (x || y) st := by
  unfold dOr; rw [h1, R.bind_ok]
  cases x with
  | true => rfl
  | false => rw [if_neg Bool.false_ne_true, h2 rfl]; rfl
theorem if_t {c : DT} {f h : DS} {r : SR} (h1 : c env st = .ok true st') (h2 : f env st' = r) : dIfS c f h env st = r := by
  unfold dIfS; rw [h1, R.s_ok, if_pos rfl, h2]
theorem if_f {c : DT} {f h : DS} {r : SR} (h1 : c env st = .ok false st') (h2 : h env st' = r) : dIfS c f h env st = r := by
  unfold dIfS; rw [h1, R.s_ok, if_neg Bool.false_ne_true, h2]
theorem ife_t {c : DT} {f h : DE} {r : R D} (h1 : c env st = .ok true st') (h2 : f env st' = r) : dIf c f h env st = r := by
  unfold dIf; rw [h1, R.bind_ok, if_pos rfl, h2]
theorem ife_f {c : DT} {f h : DE} {r : R D} (h1 : c env st = .ok false st') (h2 : h env st' = r) : dIf c f h env st = r := by
  unfold dIf; rw [h1, R.bind_ok, if_neg Bool.false_ne_true, h2]
theorem seq_run {f h : DS} {r : SR} (h1 : f env st = .nx env' st') (h2 : h env' st' = r) : dSeq f h env st = r := by
  unfold dSeq; rw [h1]; exact h2
theorem seq_rt {f h : DS} {d : D} (h1 : f env st = .rt d st') : dSeq f h env st = .rt d st' := by
  unfold dSeq; rw [h1]
theorem asg_run {f : DE} {gt : DG} {d : D} (h1 : f env st = .ok d st') (h2 : gt d env = some env') : dAsg f gt env st = .nx env' st' := by
  unfold dAsg; rw [h1, R.s_ok, h2]
theorem ret_run {f : DE} {d : D} (h1 : f env st = .ok d st') : dRet f env st = .rt d st' := by
  unfold dRet; rw [h1, R.s_ok]
theorem drop_run {f : DE} {d : D} (h1 : f env st = .ok d st') : dDrop f env st = .nx env st' := by
  unfold dDrop; rw [h1, R.s_ok]
theorem call_run {f : List D → Store → R D} {fa : DA} {ds : List D} {r : R D} (h1 : fa env st = .ok ds st') (h2 : f ds st' = r) : dCall f fa env st = r := by
  unfold dCall; rw [h1, R.bind_ok, h2]
theorem cons_run {fa : DE} {fr : DA} {d : D} {ds : List D} (h1 : fa env st = .ok d st') (h2 : fr env st' = .ok ds st'') : dCons fa fr env st = .ok (d :: ds) st'' := by
  unfold dCons; rw [h1, R.bind_ok, h2, R.bind_ok]
theorem cons1 {fa : DE} {d : D} (h1 : fa env st = .ok d st') : dCons fa dNil env st = .ok [d] st' := cons_run h1 rfl
theorem cons2 {fa fb : DE} {d e : D} (h1 : fa env st = .ok d st') (h2 : fb env st' = .ok e st'') : dCons fa (dCons fb dNil) env st = .ok [d, e] st'' := cons_run h1 (cons1 h2)
theorem tup_run {fa : DA} {ds : List D} (h1 : fa env st = .ok ds st') (h2 : ds.length ≤ 16777216) : dTup fa env st = .ok (.tup ds) st' := by
  unfold dTup; rw [h1, R.bind_ok, if_pos h2]
theorem lst_run {b : Bool} {fa : DA} {ds : List D} {r : R D} (h1 : fa env st = .ok ds st') (h2 : ds.length ≤ 16777216) (h3 : mkL b ds st' = r) : dLst b fa env st = r := by
  unfold dLst; rw [h1, R.bind_ok, if_pos h2, h3]
theorem tup1 {fa : DE} {d : D} (h1 : fa env st = .ok d st') : dTup (dCons fa dNil) env st = .ok (.tup [d]) st' := tup_run (cons1 h1) (by show 1 ≤ _; omega)
theorem tup2 {fa fb : DE} {d e : D} (h1 : fa env st = .ok d st') (h2 : fb env st' = .ok e st'') : dTup (dCons fa (dCons fb dNil)) env st = .ok (.tup [d, e]) st'' := tup_run (cons2 h1 h2) (by show 2 ≤ _; omega)
theorem for_run {fi : DI} {gt : DG} {fb : DS} {p : List D × Gd} {r : SR} (h1 : fi env st = .ok p st') (h2 : forD gt fb p.2 p.1 env st' = r) : dFor fi gt fb env st = r := by
  unfold dFor; rw [h1, R.s_ok, h2]
theorem par_run {is : List Nat} {fa : DA} {ds : List D} (h1 : fa env st = .ok ds st') (h2 : ds.length = is.length) : dPar is fa env st = .nx ((is.zip ds).foldl (fun env p => env.set p.1 (some p.2)) env) st' := by
  unfold dPar; rw [h1, R.s_ok, if_pos h2]
theorem aug_run {i : Nat} {h : D → D → Store → R D} {f : DE} {x y z : D} (h0 : env[i]? = some (some x)) (h1 : f env st = .ok y st') (h2 : h x y st' = .ok z st'') : dAug i h f env st = .nx (env.set i (some z)) st'' := by
  unfold dAug; rw [h0]; dsimp only; rw [h1, R.s_ok, h2, R.s_ok]
theorem set_run {fe fo fi : DE} {d o i : D} {s1 s2 s3 s4 : Store} (h1 : fe env st = .ok d s1) (h2 : fo env s1 = .ok o s2) (h3 : fi env s2 = .ok i s3) (h4 : setAt s3 o i d = some s4) : dSetL fe fo fi env st = .nx env s4 := by
  unfold dSetL; rw [h1, R.s_ok, h2, R.s_ok, h3, R.s_ok, h4]
theorem runB_rt {n : Nat} {fb : DS} {args : List D} {d : D} (h : fb (args.map some ++ List.replicate (n - args.length) none) st = .rt d st') : runB n fb args st = .ok d st' := by
  unfold runB; rw [h]
theorem runB_nx {n : Nat} {fb : DS} {args : List D} (h : fb (args.map some ++ List.replicate (n - args.length) none) st = .nx env' st') : runB n fb args st = .ok .non st' := by
  unfold runB; rw [h]
theorem chain_run {h h' : D → D → Store → R D} {fa fb fc : DE} {x y z : D} {p q : Bool} (h1 : fa env st = .ok x st) (h2 : fb env st = .ok y st) (h3 : h x y st = .ok (.bl p) st) (h4 : p = true → fc env st = .ok z st) (h5 : p = true → h' y z st = .ok (.bl q) st) : dChain h h' fa fb fc env st = .ok (.bl (p && q)) st := by
  unfold dChain
  rw [h1, R.bind_ok, h2, R.bind_ok, h3, R.bind_ok]
  cases p with
  | true => dsimp only; rw [h4 rfl, R.bind_ok, h5 rfl]; rfl
  | false => rfl
/-- a loop whose names live in an environment with some more -/
theorem for_fold {α β ε : Type} {gt : DG} {fb : DS} (mk : α → D) (env : β → ε → Env) (st : β → Store) (f : β → α → β) (P : β → Nat → Prop) : ∀ (l : List α),
    (∀ a ∈ l, ∀ s e n, P s (n + 1) → ∃ e1 e', gt (mk a) (env s e) = some e1 ∧ (fb e1 (st s) = .nx (env (f s a) e') (st (f s a)) ∨ fb e1 (st s) = .ct (env (f s a) e') (st (f s a))) ∧ P (f s a) n) →
    ∀ s e n, P s (n + l.length) → ∃ e', forD gt fb none (l.map mk) (env s e) (st s) = .nx (env (l.foldl f s) e') (st (l.foldl f s)) ∧ P (l.foldl f s) n
  | [], _, s, e, n, hP => ⟨e, by simp [forD, gdOk], hP⟩
  | a :: l, h, s, e, n, hP => by
    obtain ⟨e1, e', h1, h2, h3⟩ := h a List.mem_cons_self s e (n + l.length) (by rw [List.length_cons] at hP; exact hP)
    obtain ⟨e2, i1, i2⟩ := for_fold mk env st f P l (fun b hb => h b (List.mem_cons_of_mem _ hb)) (f s a) e' n h3
    refine ⟨e2, ?_, i2⟩
    rcases h2 with h2 | h2 <;> simp only [List.map_cons, forD, gdOk, if_true, h1, h2, loopK, List.foldl_cons] <;> exact i1
end
/-! what is closed stays so -/
mutual
theorem cl_mono {n m : Nat} (h : n ≤ m) : ∀ {d : D}, d.cl n = true → d.cl m = true
  | .tup xs, e => cls_mono h (show D.cls n xs = true from e)
  | .lst xs, e => cls_mono h (show D.cls n xs = true from e)
  | .dic _ xs, e => cls_mono h (show D.cls n xs = true from e)
  | .ref k, e => decide_eq_true (Nat.lt_of_lt_of_le (of_decide_eq_true (show decide (k < n) = true from e)) h)
  | .non, _ => rfl
  | .bl _, _ => rfl
  | .int _, _ => rfl
  | .str _, _ => rfl
  | .fn _, _ => rfl
  | .lam _, _ => rfl
  | .scr _, _ => rfl
theorem cls_mono {n m : Nat} (h : n ≤ m) : ∀ {ds : List D}, D.cls n ds = true → D.cls m ds = true
  | [], _ => rfl
  | d :: ds, e => by
    have e : (d.cl n && D.cls n ds) = true := e
    rw [Bool.and_eq_true] at e
    show (d.cl m && D.cls m ds) = true
    rw [cl_mono h e.1, cls_mono h e.2]
    rfl
end
theorem fsCl_mono {n m : Nat} (h : n ≤ m) : ∀ {fs : List (Str × D)}, fsCl n fs = true → fsCl m fs = true
  | [], _ => rfl
  | (x, d) :: fs, e => by
    have e : (d.cl n && fsCl n fs) = true := e
    rw [Bool.and_eq_true] at e
    show (d.cl m && fsCl m fs) = true
    rw [cl_mono h e.1, fsCl_mono h e.2]
    rfl
theorem soCl_mono {n m : Nat} (h : n ≤ m) : ∀ {o : SO}, o.cl n = true → o.cl m = true
  | .lst _, e => cls_mono h e
  | .dic _ _, e => cls_mono h e
  | .ins _ _, e => fsCl_mono h e
theorem stCl_mono {n m : Nat} (h : n ≤ m) : ∀ {st : List SO}, stCl n st = true → stCl m st = true
  | [], _ => rfl
  | o :: st, e => by
    have e : (o.cl n && stCl n st) = true := e
    rw [Bool.and_eq_true] at e
    show (o.cl m && stCl m st) = true
    rw [soCl_mono h e.1, stCl_mono h e.2]
    rfl
theorem stCl_app {n : Nat} : ∀ {st ss : List SO}, stCl n st = true → stCl n ss = true → stCl n (st ++ ss) = true
  | [], _, _, h => h
  | o :: st, ss, e, h => by
    have e : (o.cl n && stCl n st) = true := e
    rw [Bool.and_eq_true] at e
    show (o.cl n && stCl n (st ++ ss)) = true
    rw [e.1, stCl_app e.2 h]
    rfl
theorem stCl_lst {st : Store} (h : stCl st.length st = true) {L : List D} (hL : D.cls (st.length + 1) L = true) : stCl (st ++ [SO.lst L]).length (st ++ [SO.lst L]) = true := by
  rw [List.length_append]
  refine stCl_app (stCl_mono (Nat.le_add_right _ _) h) ?_
  show (D.cls _ L && true) = true
  rw [Bool.and_true]
  exact hL
end G

namespace G
open PySem L2 PySem.Spec PyProof.Rows
open Sem (wp)
/-! ### enumerate(a tuple) -/
theorem meets_enumB {v : Value} {o : Obj} {H : Heap → Prop} (B : Begins v o H) :
    Meets (Builtin.«enumerate.__new__» ⟨[.type "enumerate", v], []⟩) (fun _ R s => H s.heap ∧
      R (.ok (.ret (.ref (s.heap.push o).objs.size))) { s with heap := (s.heap.push o).push { cls := .type "enumerate", data := .fields #[.none, .bool false, .ref s.heap.objs.size, rawInt 0, .none, .none] } }) :=
  .of_wp fun prog w A R s h => by
    obtain ⟨hp, g, d, tk, os⟩ := s; obtain ⟨h1, h⟩ := h
    have hsub := sub_enumerate
    have q1 : ∀ {A' : Around} {E : Value → Shared → Prop} {Q : Value → Shared → Prop}, Q (.ref hp.objs.size) ⟨hp.push o, g, d, tk, os⟩ → wpAny (model prog w) A' (pyIter v) Q E ⟨hp, g, d, tk, os⟩ :=
      fun q => B.iter prog w _ _ ⟨hp, g, d, tk, os⟩ _ h1 q
    wp_walk using q1
    refine wpAny_stack_any fun st => wpAny_pure ?_
    split
    · rename_i c _ _ _ _ _
      cases (c == Value.type "enumerate")
      · wp_walk using q1
        exact ⟨_, rfl, h⟩
      · wp_walk using q1
        exact ⟨_, rfl, h⟩
    · wp_walk using q1
      exact ⟨_, rfl, h⟩
section
variable {prog : Program} {w : World} {A : Around} {E : Value → Shared → Prop} {s : Shared}
theorem enum_begin {v : Value} {o : Obj} {H : Heap → Prop} {Q : Value → Shared → Prop} (B : Begins v o H) (h1 : H s.heap)
    (h : ∀ h', IsEnum h' (s.heap.objs.size + 1) s.heap.objs.size 0 .none → h'.get? s.heap.objs.size = some o → h'.objs.size = s.heap.objs.size + 2 →
      (∀ b o, s.heap.get? b = some o → h'.get? b = some o) → Q (.ref (s.heap.objs.size + 1)) { s with heap := h' }) :
    wpAny (model prog w) A (call (.type "enumerate") [v]) Q E s := by
  refine callType_new F.called_enumerate (by decide) (F.typeCall_enumerate_1 _) (F.newCall_enumerate_1 _) (fun obj => F.args_object_init_2 obj _) F.entry_enumerate_new
    (meets_enumB B) ⟨h1, ?_⟩
  have hz : (s.heap.push o).objs.size = s.heap.objs.size + 1 := Heap.size_push ..
  show _ ∧ _
  rw [hz]
  have he : IsEnum ((s.heap.push o).push { cls := .type "enumerate", data := .fields #[.none, .bool false, .ref s.heap.objs.size, rawInt 0, .none, .none] }) (s.heap.objs.size + 1) s.heap.objs.size 0 .none := by
    have := Heap.get?_push_size (s.heap.push o) (o := { cls := .type "enumerate", data := .fields #[.none, .bool false, .ref s.heap.objs.size, rawInt 0, .none, .none] }) rfl
    rw [hz] at this; exact this
  refine ⟨⟨_, he, rfl⟩, h _ he (Heap.get?_push_of_some _ (Heap.get?_push_size _ B.free)) (by rw [Heap.size_push, hz]) fun b o x => Heap.get?_push_of_some _ (Heap.get?_push_of_some _ x)⟩
end
section
variable {prog : Program} {w : World} {A : Around} {E : Value → Shared → Prop} {s : Shared}
theorem enumT_end {e it l : Addr} {i : Nat} {j : Int} {items : Array Value} {old : Value} {Q : Option Value → Shared → Prop} (hh : A.handled = none)
    (he : IsEnum s.heap e it j old) (hit : s.heap.IsTupleIter it l i) (hl : s.heap.IsTuple l items) (hx : items[i]? = none)
    (hQ : ∀ h', Heap.ExtBut it s.heap h' → Q none { s with heap := h' }) : wpAny (model prog w) A (pyNext (.ref e)) Q E s := by
  have hT : s.TypeIs (.ref e) "enumerate" := ⟨_, he, rfl⟩
  unfold pyNext
  refine wpAny_bind (wpAny_attempt (wpAny_callSpecial?_slot (name := Str.ofString "__next__") hT F.slot_enumerate_next
    (wpAny_call_entry F.slot_enumerate_next hT F.entry_enumerate_next ?_ (F.args_enumerate_next_1 _))))
  show wpAny _ _ (field (.ref e) 2 >>= _) _ _ _
  refine wpAny_bind (wpAny_field he rfl (x := .ref it) rfl ?_)
  refine wpAny_bind (wpAny_nextOf_tuple_end hh hit hl hx fun h' x he' hx' => ?_)
  obtain ⟨o, ho, hc⟩ := hx'
  refine wpAny_bind (wpAny_isInstance (T := "StopIteration") (b := true) ⟨o, ho, hc⟩ isSubtype_stop ?_)
  exact wpAny_pure (hQ _ he')
end
/-- the tuple at a, each item in a new pair -/
def IteT (K : PySem.W.Frag) (a : Addr) : It :=
  ⟨fun i H => ∃ (xs : List V) (x : V), SqT K H a xs ∧ xs[i]? = some x, fun i H v H' => ∃ T x, v = .ref T ∧ H T = none ∧ H' = upd H T (.tup [.int (i : Nat), x]) ∧ ∀ xs, SqT K H a xs → xs[i]? = some x, fun i H => ∃ xs : List V, SqT K H a xs ∧ xs.length ≤ i⟩
theorem apart_tup {h : Heap} {a it : Addr} {i : Nat} {xs : Array Value} (hi : h.IsTupleIter it a i) (ht : h.IsTuple a xs) : a ≠ it := fun e => by
  subst e
  obtain ⟨o, ho, hc, _⟩ := hi
  obtain ⟨o', ho', hc', _⟩ := ht
  rw [ho] at ho'; cases ho'
  rw [hc] at hc'
  injection hc' with h
  exact absurd h (by decide)
theorem apart_enum {h : Heap} {a e it : Addr} {i : Int} {old : Value} {xs : Array Value} (he : IsEnum h e it i old) (ht : h.IsTuple a xs) : e ≠ a := fun z => by
  subst z
  obtain ⟨o', ho', hc', _⟩ := ht
  have he : h.get? e = _ := he
  rw [he] at ho'; cases ho'
  have hc' : Value.type "enumerate" = Value.type "tuple" := hc'
  injection hc' with h
  exact absurd h (by decide)
theorem turn_enumT {P : Program} {w : World} {K : PySem.W.Frag} {elts : List Expr} {kk : Nat} {tpos : Pos} (a e it : Addr) :
    Turn P w K (.Tuple elts kk tpos) (IteT K a) [e, it] e (fun i h => (∃ old, IsEnum h e it ((i : Nat) : Int) old) ∧ h.IsTupleIter it a i ∧ e ≠ it) where
  mem := by simp
  obj := fun i h st b hb => by
    obtain ⟨⟨old, he⟩, ⟨o, ho, hc, hd⟩, _⟩ := st
    have e' : b = e ∨ b = it := by simpa using hb
    rcases e' with z | z
    · rw [z]; exact ⟨_, he, fun v q => nomatch q⟩
    · rw [z]; exact ⟨o, ho, fun v q => by rw [hd] at q; cases q⟩
  keep := fun i h h' st k => let ⟨⟨old, he⟩, hi, hne⟩ := st; ⟨⟨old, k e (by simp) _ he⟩, hi.at fun o q => k it (by simp) o q, hne⟩
  item := by
    intro X hP hw hK hc i pins s σ H E I hf st hg
    subst hP hw hK
    obtain ⟨⟨old, he⟩, hit, hne⟩ := st
    obtain ⟨xs, x, hq, hx⟩ := hg
    obtain ⟨its, rv, p, hz⟩ := I.tuple hq
    have p : s.heap.IsTuple a its.toArray := p
    obtain ⟨u, hu, ru⟩ := rv.get hx
    have hel : e < s.heap.objs.size := Heap.lt_size he
    have ha := apart_tup hit p
    have hea := apart_enum he p
    have hlt : i < its.toArray.size := by
      rw [List.size_toArray]
      exact (List.getElem?_eq_some_iff.mp hu).1
    refine wpAny_pyNext_enum_itemD (Draws.tuple (show X.A.in1.handled = none from I.ok.hd hc) it a ha its.toArray) he ⟨hit, p⟩ hlt hne (by simp [hne, hea]) fun u' h' tk hu' ho hst' hT hsz hk => ?_
    have hu' : its.toArray[i]? = some u' := hu'
    obtain rfl : u = u' := by
      rw [List.getElem?_toArray, hu] at hu'
      exact Option.some.inj hu'
    have hit' := hst'.1
    refine ⟨_, rfl, wpAny_letOwnedTupleGo_enum (s := { s with heap := h', toks := tk + 1 }) ho fun h'' he' sb => ?_⟩
    have hT2 : h''.get? s.heap.objs.size = some { cls := .type "tuple", data := .seq #[.int i tk, u] } := (sb.2 _ (Nat.ne_of_gt hel)).trans hT
    have new : ObjOk X.prog X.w (upd H s.heap.objs.size (.tup [.int (i : Nat), x])) h'' s.heap.objs.size (.tup [.int (i : Nat), x]) :=
      ⟨by show 2 ≤ sizeLine; decide, [.int i tk, u], .cons ⟨_, rfl⟩ (.cons ru .nil), ⟨_, hT2, rfl, _, rfl⟩⟩
    have I1 : Inv X pins σ (upd H s.heap.objs.size (.tup [.int (i : Nat), x])) { s with heap := h'', toks := tk + 1 } :=
      I.turnedNew (ch := [e, it]) (fun b ob hb q => (sb.2 b (fun z => hb (by simp [z]))).trans (hk b ob (fun z => hb (by simp [z])) (fun z => hb (by simp [z])) q)) hf (Nat.le_refl _) new
    refine ⟨.ref s.heap.objs.size, _, I1, rfl, ⟨_, x, rfl, I.hok.fresh (Nat.le_refl _), rfl, fun ys hy => by rw [I.tuple_inj hy hq]; exact hx⟩, ⟨⟨u, ?_⟩, hit'.at fun o q => (sb.2 it (Ne.symm hne)).trans q, hne⟩, fun b hb => ?_⟩
    · have e1 : ((i + 1 : Nat) : Int) = (i : Int) + 1 := by omega
      rw [e1]; exact he'
    · have hil : it < s.heap.objs.size := by obtain ⟨_, q, _⟩ := hit; exact Heap.lt_size q
      have hb' : b < s.heap.objs.size := by
        have e' : b = e ∨ b = it := by simpa using hb
        rcases e' with z | z
        · rw [z]; exact hel
        · rw [z]; exact hil
      rw [upd_ne (Nat.ne_of_lt hb')]
      exact (hf b hb).1
  done := by
    intro X hP hw hK hc i pins s σ H E I hf st hg
    subst hP hw hK
    obtain ⟨⟨old, he⟩, hit, hne⟩ := st
    obtain ⟨xs, hq, hx⟩ := hg
    obtain ⟨its, rv, p, hz⟩ := I.tuple hq
    have p : s.heap.IsTuple a its.toArray := p
    have ha := apart_tup hit p
    obtain ⟨f0, f1, f2, f3, f4, f5⟩ := hf it (by simp)
    have hl := rv.length
    exact enumT_end (I.ok.hd hc) he hit p (by simp; omega) fun h' eb => ⟨rfl, I.turned (t' := s.toks) (fun b o hb q => eb b o hb q) f0 f1 f3 f4 f5⟩
  self := fun A i s Q E st h => let ⟨⟨_, he⟩, _⟩ := st; wpAny_pyIter_enum he h
def iEnumA (K : PySem.W.Frag) (ta : TA) : TI := fun σ H R => ta σ H fun vs H1 => ∃ a xs, vs = [.ref a] ∧ ((SqL K H1 a xs ∧ R (Ite K a) H1) ∨ (SqT K H1 a xs ∧ R (IteT K a) H1))
theorem pi_enumA {X : Cx} {e : Expr} {ta : TA} {p pos tpos : Pos} {elts : List Expr} {kk : Nat} (hg : Gl X "enumerate") (hm : X.mg "enumerate" = none) (ha : PA X [e] ta) (hs : starEach [e] X.env = [(false, eval e X.env)] := by rfl) :
    PI X (.Tuple elts kk tpos) (.Call (.Name "enumerate" p) [e] [] pos) (iEnumA X.K ta) := by
  refine ⟨fun pins s σ H R I h => ?_⟩
  refine Call_ (ld_blt I hg hm boot_enumerate (PyProof.Rows.callWith_type1 (thn (ha.run pos pins s σ H _ I h) fun us s1 ⟨vs, H1, I1, r1, q1⟩ => ?_) hs rfl))
  obtain ⟨a, xs, ex, q⟩ := q1
  subst ex
  cases r1 with
  | cons r rr =>
    cases rr
    cases r
    rcases q with ⟨hq, q⟩ | ⟨hq, q⟩
    · obtain ⟨its, rv, p', hz⟩ := I1.list hq
      refine call_enumerate_list p'.isList fun h' he hit hsz hk => wpAny_pyIter_enum he ?_
      have I2 : Inv X pins σ H1 { s1 with heap := h' } := I1.kept (t' := s1.toks) hk
      refine ⟨s1.heap.objs.size + 1, [s1.heap.objs.size + 1, s1.heap.objs.size], _, _, H1, rfl, I2, turn_enum a (s1.heap.objs.size + 1) s1.heap.objs.size, ⟨⟨.none, he⟩, hit, Nat.succ_ne_self _⟩, fun b hb => ?_, q⟩
      have e' : b = s1.heap.objs.size + 1 ∨ b = s1.heap.objs.size := by simpa using hb
      have hle : s1.heap.objs.size ≤ b := by
        rcases e' with z | z
        · rw [z]; exact Nat.le_add_right _ _
        · rw [z]; exact Nat.le_refl _
      exact I1.fpOk hle (I1.hok.fresh hle)
    · obtain ⟨its, rv, p', hz⟩ := I1.tuple hq
      have p' : s1.heap.IsTuple a its.toArray := p'
      refine enum_begin (begins_tuple a its.toArray) p' fun h' he hit hsz hk => wpAny_pyIter_enum he ?_
      have I2 : Inv X pins σ H1 { s1 with heap := h' } := I1.kept (t' := s1.toks) hk
      refine ⟨s1.heap.objs.size + 1, [s1.heap.objs.size + 1, s1.heap.objs.size], _, _, H1, rfl, I2, turn_enumT a (s1.heap.objs.size + 1) s1.heap.objs.size, ⟨⟨.none, he⟩, ⟨_, hit, rfl, rfl⟩, Nat.succ_ne_self _⟩, fun b hb => ?_, q⟩
      have e' : b = s1.heap.objs.size + 1 ∨ b = s1.heap.objs.size := by simpa using hb
      have hle : s1.heap.objs.size ≤ b := by
        rcases e' with z | z
        · rw [z]; exact Nat.le_add_right _ _
        · rw [z]; exact Nat.le_refl _
      exact I1.fpOk hle (I1.hok.fresh hle)
def dEnumA (f : DE) : DI := fun env st => (f env st).bind fun d st => match gdOf st d with
    | some p => .ok (enumD 0 p.1, p.2) st
    | none => .bad
section
variable {X : Cx} {g : GC} {W : WX} {k : Nat} {pos : Pos} {μ : Mp} {H : Hp}
theorem iteT_ok {J : It} {K : PySem.W.Frag} {a : Addr} (e : J = IteT K a) {ds : List D} {gd : Gd} {μ : Mp} {H : Hp}
    (h : ∀ μ' H' st', Lw μ H μ' H' → RelS g μ' H' st' → gdOk gd st' = true → ∃ vs, SqT K H' a vs ∧ Reps g μ' H' ds vs) : ItOk g J (enumD 0 ds) gd μ H := by
  subst e
  intro μ' H' st' L S hg
  obtain ⟨vs, h1, h2⟩ := h μ' H' st' L S hg
  refine ⟨fun i d hd => ?_, ⟨vs, h1, by rw [enum_len, h2.len]; exact Nat.le_refl _⟩⟩
  obtain ⟨e, he, rfl⟩ := enum_get ds 0 i d hd
  obtain ⟨v, h3, h4⟩ := h2.get he
  refine ⟨⟨vs, v, h1, h3⟩, fun x H'' y => ?_⟩
  obtain ⟨T, w, e1, hT, e2, y⟩ := y
  have := y vs h1
  rw [h3] at this
  cases this
  subst e1 e2
  rw [Nat.zero_add]
  exact ⟨le_new S hT, S.frz hT, ⟨T, _, rfl, .inl ⟨S.out hT, .inl upd_same⟩, _, _, rfl, rfl, v, [], rfl, h4.le (le_new S hT), rfl⟩⟩
theorem i_enumA {e : Expr} {f : DE} {p tpos : Pos} {elts : List Expr} {kk : Nat} (O : Ok X g W k) (hm : X.mg "enumerate" = none) (he : PD X g W e f) (hg : Gl X "enumerate" := by rfl) (hs : starEach [e] X.env = [(false, eval e X.env)] := by rfl) :
    PID X g W (.Tuple elts kk tpos) (.Call (.Name "enumerate" p) [e] [] pos) (dEnumA f) :=
  PI.imp (pi_enumA hg hm (L2.pa_cons he L2.pa_nil hs) hs) fun σ H R ⟨μ, env, st, S, E, q⟩ => by
    refine bindE S E q fun μ1 H1 d st1 v L1 S1 E1 r1 h1 => ?_
    rw [O.hK]
    cases d with
    | tup ds =>
      obtain ⟨a, vs, e, h2, r2⟩ := seqT_ok (ds := ds) r1 rfl
      refine ⟨a, vs, by rw [e], .inr ⟨h2, h1.here S1 _ (iteT_ok rfl fun μ' H' st' L S _ => ?_)⟩⟩
      obtain ⟨a', vs', e', h3, r3⟩ := seqT_ok (ds := ds) (r1.lw L) rfl
      rw [e] at e'
      cases e'
      exact ⟨vs', h3, r3⟩
    | lst ds =>
      obtain ⟨a, vs, e, h2, r2⟩ := seqL_ok S1 (ds := ds) r1 rfl
      refine ⟨a, vs, by rw [e], .inl ⟨h2, h1.here S1 _ (ite_ok rfl fun μ' H' st' L S _ => ?_)⟩⟩
      obtain ⟨a', vs', e', h3, r3⟩ := seqL_ok S (ds := ds) (r1.lw L) rfl
      rw [e] at e'
      cases e'
      exact ⟨vs', h3, r3⟩
    | scr ns =>
      obtain ⟨a, vs, e, h2, r2⟩ := seqL_ok S1 (ds := ns.map .int) r1 rfl
      refine ⟨a, vs, by rw [e], .inl ⟨h2, h1.here S1 _ (ite_ok rfl fun μ' H' st' L S _ => ?_)⟩⟩
      obtain ⟨a', vs', e', h3, r3⟩ := seqL_ok S (ds := ns.map .int) (r1.lw L) rfl
      rw [e] at e'
      cases e'
      exact ⟨vs', h3, r3⟩
    | ref n =>
      cases hn : lstAt st1 n with
      | none => simp only [gdOf, hn] at h1; exact h1.elim
      | some ds =>
        simp only [gdOf, hn] at h1
        obtain ⟨a, vs, e, h2, r2⟩ := seqL_ok S1 (ds := ds) r1 hn
        refine ⟨a, vs, by rw [e], .inl ⟨h2, h1.here S1 _ (ite_ok rfl fun μ' H' st' L S hg => ?_)⟩⟩
        have hs : lstAt st' n = some ds := by
          have hg : (match lstAt st' n with
            | some es => D.sames es ds
            | none => false) = true := hg
          cases q : lstAt st' n with
          | none => rw [q] at hg; cases hg
          | some es => rw [q] at hg; rw [sames_eq _ _ hg]
        obtain ⟨a', vs', e', h3, r3⟩ := seqL_ok S (ds := ds) (r1.lw L) hs
        rw [e] at e'
        cases e'
        exact ⟨vs', h3, r3⟩
    | _ => exact h1.elim
end
end G

namespace K04
open PySem G
open L2 (FnScope defScope defBody defArgs blkOk_by sw_true Cx XK Hp Binds Fun)
def topS (i : Nat) : Stmt := PySem.Challenge.pw_clockstack_k04_stretches_of_time.main.body.getD i (.Pass ⟨0, 0, 0, 0⟩)
def c_WAYS_TO_LIE : D := (.tup [(.str "ahead"), (.str "up to"), (.str "over"), (.str "begins"), (.str "within"), (.str "ends"), (.str "same")])
abbrev s_check_spans : Stmt := topS 5
theorem sc_check_spans : FnScope ["rows", "start", "end"] ["rows"] (defScope s_check_spans) := ⟨rfl, rfl, rfl, by decide +kernel, rfl, by decide +kernel, by decide +kernel⟩
abbrev s_joined : Stmt := topS 6
theorem sc_joined : FnScope ["rows", "found", "start", "end"] ["rows"] (defScope s_joined) := ⟨rfl, rfl, rfl, by decide +kernel, rfl, by decide +kernel, by decide +kernel⟩
abbrev s_common : Stmt := topS 7
theorem sc_common : FnScope ["one", "other", "mine", "theirs", "found", "start", "end", "first", "last"] ["one", "other"] (defScope s_common) := ⟨rfl, rfl, rfl, by decide +kernel, rfl, by decide +kernel, by decide +kernel⟩
abbrev s_without : Stmt := topS 8
theorem sc_without : FnScope ["one", "other", "found", "gone", "start", "end", "here", "first", "last"] ["one", "other"] (defScope s_without) := ⟨rfl, rfl, rfl, by decide +kernel, rfl, by decide +kernel, by decide +kernel⟩
abbrev s_either : Stmt := topS 9
theorem sc_either : FnScope ["one", "other"] ["one", "other"] (defScope s_either) := ⟨rfl, rfl, rfl, by decide +kernel, rfl, by decide +kernel, by decide +kernel⟩
abbrev s_gaps_in : Stmt := topS 10
theorem sc_gaps_in : FnScope ["rows", "start", "end"] ["rows", "start", "end"] (defScope s_gaps_in) := ⟨rfl, rfl, rfl, by decide +kernel, rfl, by decide +kernel, by decide +kernel⟩
abbrev s_length_of : Stmt := topS 11
theorem sc_length_of : FnScope ["rows", "start", "end"] ["rows"] (defScope s_length_of) := ⟨rfl, rfl, rfl, by decide +kernel, rfl, by decide +kernel, by decide +kernel⟩
abbrev s_holds_at : Stmt := topS 12
theorem sc_holds_at : FnScope ["rows", "when", "start", "end"] ["rows", "when"] (defScope s_holds_at) := ⟨rfl, rfl, rfl, by decide +kernel, rfl, by decide +kernel, by decide +kernel⟩
abbrev s_how_lies : Stmt := topS 13
theorem sc_how_lies : FnScope ["one", "other", "word"] ["one", "other"] (defScope s_how_lies) := ⟨rfl, rfl, rfl, by decide +kernel, rfl, by decide +kernel, by decide +kernel⟩
abbrev s_plain_lies : Stmt := topS 14
theorem sc_plain_lies : FnScope ["one", "other"] ["one", "other"] (defScope s_plain_lies) := ⟨rfl, rfl, rfl, by decide +kernel, rfl, by decide +kernel, by decide +kernel⟩
abbrev s_how_many_at : Stmt := topS 15
theorem sc_how_many_at : FnScope ["rows", "cuts", "found", "row", "start", "end", "many", "first", "last"] ["rows"] (defScope s_how_many_at) := ⟨rfl, rfl, rfl, by decide +kernel, rfl, by decide +kernel, by decide +kernel⟩
abbrev s_most_at_once : Stmt := topS 16
theorem sc_most_at_once : FnScope ["rows", "start", "end", "many"] ["rows"] (defScope s_most_at_once) := ⟨rfl, rfl, rfl, by decide +kernel, rfl, by decide +kernel, by decide +kernel⟩
abbrev s_in_at_least : Stmt := topS 17
theorem sc_in_at_least : FnScope ["rows", "many", "start", "end", "here"] ["rows", "many"] (defScope s_in_at_least) := ⟨rfl, rfl, rfl, by decide +kernel, rfl, by decide +kernel, by decide +kernel⟩
abbrev s_first_fit : Stmt := topS 18
theorem sc_first_fit : FnScope ["free", "long", "step", "start", "first", "last", "here"] ["free", "long", "step", "start"] (defScope s_first_fit) := ⟨rfl, rfl, rfl, by decide +kernel, rfl, by decide +kernel, by decide +kernel⟩
abbrev s_moved_by : Stmt := topS 19
theorem sc_moved_by : FnScope ["rows", "by", "start", "end"] ["rows", "by"] (defScope s_moved_by) := ⟨rfl, rfl, rfl, by decide +kernel, rfl, by decide +kernel, by decide +kernel⟩
abbrev s_wider : Stmt := topS 20
theorem sc_wider : FnScope ["rows", "ahead", "behind", "start", "end"] ["rows", "ahead", "behind"] (defScope s_wider) := ⟨rfl, rfl, rfl, by decide +kernel, rfl, by decide +kernel, by decide +kernel⟩
abbrev s_fewest_points : Stmt := topS 21
theorem sc_fewest_points : FnScope ["rows", "found", "end", "start"] ["rows"] (defScope s_fewest_points) := ⟨rfl, rfl, rfl, by decide +kernel, rfl, by decide +kernel, by decide +kernel⟩
abbrev s_most_apart : Stmt := topS 22
theorem sc_most_apart : FnScope ["rows", "found", "last", "end", "place", "row"] ["rows"] (defScope s_most_apart) := ⟨rfl, rfl, rfl, by decide +kernel, rfl, by decide +kernel, by decide +kernel⟩
abbrev s__law_dice : Stmt := topS 24
theorem sc__law_dice : FnScope ["cell"] ["cell"] (defScope s__law_dice) := ⟨rfl, rfl, rfl, by decide +kernel, rfl, by decide +kernel, by decide +kernel⟩
abbrev s__law_roll : Stmt := topS 25
theorem sc__law_roll : FnScope ["dice", "many", "found"] ["dice", "many"] (defScope s__law_roll) := ⟨rfl, rfl, rfl, by decide +kernel, rfl, by decide +kernel, by decide +kernel⟩
abbrev s__law_rounds : Stmt := topS 26
theorem sc__law_rounds : FnScope ["script", "most", "cells", "cell"] ["script", "most"] (defScope s__law_rounds) := ⟨rfl, rfl, rfl, by decide +kernel, rfl, by decide +kernel, by decide +kernel⟩
abbrev s__law_told : Stmt := topS 27
theorem sc__law_told : FnScope ["what"] ["what"] (defScope s__law_told) := ⟨rfl, rfl, rfl, by decide +kernel, rfl, by decide +kernel, by decide +kernel⟩
abbrev s__law_rows : Stmt := topS 28
theorem sc__law_rows : FnScope ["dice", "start", "k"] ["dice"] (defScope s__law_rows) := ⟨rfl, rfl, rfl, by decide +kernel, rfl, by decide +kernel, by decide +kernel⟩
abbrev s__law_at : Stmt := topS 29
theorem sc__law_at : FnScope ["rows", "when", "start", "end"] ["rows", "when"] (defScope s__law_at) := ⟨rfl, rfl, rfl, by decide +kernel, rfl, by decide +kernel, by decide +kernel⟩
abbrev s__law_made : Stmt := topS 30
theorem sc__law_made : FnScope ["times", "found", "when"] ["times"] (defScope s__law_made) := ⟨rfl, rfl, rfl, by decide +kernel, rfl, by decide +kernel, by decide +kernel⟩
abbrev s__law_lies : Stmt := topS 31
theorem sc__law_lies : FnScope ["one", "other", "words", "first", "second", "turned"] ["one", "other"] (defScope s__law_lies) := ⟨rfl, rfl, rfl, by decide +kernel, rfl, by decide +kernel, by decide +kernel⟩
abbrev s__law_sets : Stmt := topS 32
theorem sc__law_sets : FnScope ["things", "rows", "thing", "row"] ["things"] (defScope s__law_sets) := ⟨rfl, rfl, rfl, by decide +kernel, rfl, by decide +kernel, by decide +kernel⟩
abbrev s__law_clash : Stmt := topS 33
theorem sc__law_clash : FnScope ["rows", "places", "k", "j"] ["rows", "places"] (defScope s__law_clash) := ⟨rfl, rfl, rfl, by decide +kernel, rfl, by decide +kernel, by decide +kernel⟩
abbrev s__law_plain : Stmt := topS 34
theorem sc__law_plain : FnScope ["bad", "f"] [] (defScope s__law_plain) := ⟨rfl, rfl, rfl, by decide +kernel, rfl, by decide +kernel, by decide +kernel⟩
abbrev s_law : Stmt := topS 35
theorem sc_law : FnScope ["script", "dice", "one", "other", "times", "mine", "theirs", "when", "start", "end", "row", "two", "counts", "first", "last", "rows", "many", "here", "long", "step", "begin", "able", "k", "by", "ahead", "behind", "wide", "points", "apart", "best"] ["script"] (defScope s_law) := ⟨rfl, rfl, rfl, by decide +kernel, rfl, by decide +kernel, by decide +kernel⟩
def lam_0 : LamI := lamI ((("_law_plain" : Str) ++ ".<locals>.") ++ "<lambda>") (listElt ((defBody s__law_plain).getD 0 (.Pass ⟨0, 0, 0, 0⟩)) 0)
def lam_1 : LamI := lamI ((("_law_plain" : Str) ++ ".<locals>.") ++ "<lambda>") (listElt ((defBody s__law_plain).getD 0 (.Pass ⟨0, 0, 0, 0⟩)) 1)
def lam_2 : LamI := lamI ((("_law_plain" : Str) ++ ".<locals>.") ++ "<lambda>") (listElt ((defBody s__law_plain).getD 0 (.Pass ⟨0, 0, 0, 0⟩)) 2)
def lam_3 : LamI := lamI ((("_law_plain" : Str) ++ ".<locals>.") ++ "<lambda>") (listElt ((defBody s__law_plain).getD 0 (.Pass ⟨0, 0, 0, 0⟩)) 3)
def lam_4 : LamI := lamI ((("_law_plain" : Str) ++ ".<locals>.") ++ "<lambda>") (listElt ((defBody s__law_plain).getD 0 (.Pass ⟨0, 0, 0, 0⟩)) 4)
def lam_5 : LamI := lamI ((("_law_plain" : Str) ++ ".<locals>.") ++ "<lambda>") (listElt ((defBody s__law_plain).getD 0 (.Pass ⟨0, 0, 0, 0⟩)) 5)
def lam_6 : LamI := lamI ((("_law_plain" : Str) ++ ".<locals>.") ++ "<lambda>") (listElt ((defBody s__law_plain).getD 0 (.Pass ⟨0, 0, 0, 0⟩)) 6)
def lam_7 : LamI := lamI ((("_law_plain" : Str) ++ ".<locals>.") ++ "<lambda>") (listElt ((defBody s__law_plain).getD 0 (.Pass ⟨0, 0, 0, 0⟩)) 7)
def lam_8 : LamI := lamI ((("_law_plain" : Str) ++ ".<locals>.") ++ "<lambda>") (listElt ((defBody s__law_plain).getD 0 (.Pass ⟨0, 0, 0, 0⟩)) 8)
def lam_9 : LamI := lamI ((("_law_plain" : Str) ++ ".<locals>.") ++ "<lambda>") (listElt ((defBody s__law_plain).getD 0 (.Pass ⟨0, 0, 0, 0⟩)) 9)
def lam_10 : LamI := lamI ((("_law_plain" : Str) ++ ".<locals>.") ++ "<lambda>") (listElt ((defBody s__law_plain).getD 0 (.Pass ⟨0, 0, 0, 0⟩)) 10)
def lam_11 : LamI := lamI ((("_law_plain" : Str) ++ ".<locals>.") ++ "<lambda>") (listElt ((defBody s__law_plain).getD 0 (.Pass ⟨0, 0, 0, 0⟩)) 11)
def lam_12 : LamI := lamI ((("_law_plain" : Str) ++ ".<locals>.") ++ "<lambda>") (listElt ((defBody s__law_plain).getD 0 (.Pass ⟨0, 0, 0, 0⟩)) 12)
def lam_13 : LamI := lamI ((("_law_plain" : Str) ++ ".<locals>.") ++ "<lambda>") (listElt ((defBody s__law_plain).getD 0 (.Pass ⟨0, 0, 0, 0⟩)) 13)
def lam_14 : LamI := lamI ((("_law_plain" : Str) ++ ".<locals>.") ++ "<lambda>") (listElt ((defBody s__law_plain).getD 0 (.Pass ⟨0, 0, 0, 0⟩)) 14)
def lam_15 : LamI := lamI ((("_law_plain" : Str) ++ ".<locals>.") ++ "<lambda>") (listElt ((defBody s__law_plain).getD 0 (.Pass ⟨0, 0, 0, 0⟩)) 15)
def lam_16 : LamI := lamI ((("_law_plain" : Str) ++ ".<locals>.") ++ "<lambda>") (listElt ((defBody s__law_plain).getD 0 (.Pass ⟨0, 0, 0, 0⟩)) 16)
def lam_17 : LamI := lamI ((("_law_plain" : Str) ++ ".<locals>.") ++ "<lambda>") (listElt ((defBody s__law_plain).getD 0 (.Pass ⟨0, 0, 0, 0⟩)) 17)
def lam_18 : LamI := lamI ((("_law_plain" : Str) ++ ".<locals>.") ++ "<lambda>") (listElt ((defBody s__law_plain).getD 0 (.Pass ⟨0, 0, 0, 0⟩)) 18)
/-- what is known of the text -/
structure Txt (g : GC) (mg : Str → Option Value) : Prop where
  catch_SpanError : Catches g "SpanError" [("SpanError", true)]
  e_SpanError : ExD g mg "SpanError"
  g_WAYS_TO_LIE : Glob g mg "WAYS_TO_LIE" c_WAYS_TO_LIE
  n_abs : mg "abs" = none
  n_any : mg "any" = none
  n_enumerate : mg "enumerate" = none
  n_int : mg "int" = none
  n_len : mg "len" = none
  n_list : mg "list" = none
  n_max : mg "max" = none
  n_min : mg "min" = none
  n_range : mg "range" = none
  n_sorted : mg "sorted" = none
  n_sum : mg "sum" = none
  n_tuple : mg "tuple" = none
  n_zip : mg "zip" = none
  l_0 : g.lam 0 = some lam_0
  l_1 : g.lam 1 = some lam_1
  l_2 : g.lam 2 = some lam_2
  l_3 : g.lam 3 = some lam_3
  l_4 : g.lam 4 = some lam_4
  l_5 : g.lam 5 = some lam_5
  l_6 : g.lam 6 = some lam_6
  l_7 : g.lam 7 = some lam_7
  l_8 : g.lam 8 = some lam_8
  l_9 : g.lam 9 = some lam_9
  l_10 : g.lam 10 = some lam_10
  l_11 : g.lam 11 = some lam_11
  l_12 : g.lam 12 = some lam_12
  l_13 : g.lam 13 = some lam_13
  l_14 : g.lam 14 = some lam_14
  l_15 : g.lam 15 = some lam_15
  l_16 : g.lam 16 = some lam_16
  l_17 : g.lam 17 = some lam_17
  l_18 : g.lam 18 = some lam_18
  lam_no : ∀ n, 19 ≤ n → g.lam n = none
  d_check_spans : DefL g mg "check_spans" s_check_spans ["rows"]
  mT_check_spans : ((g.cp "check_spans").2, (("check_spans" : Str) ++ ".<locals>.") ++ "<genexpr>") ∈ g.T
  hu_check_spans : ∀ p ∈ g.T, p.1 = (g.cp "check_spans").2 → p.2 = (("check_spans" : Str) ++ ".<locals>.") ++ "<genexpr>"
  d_joined : DefD g mg "joined" s_joined ["rows"]
  d_common : DefD g mg "common" s_common ["one", "other"]
  d_without : DefD g mg "without" s_without ["one", "other"]
  d_either : DefD g mg "either" s_either ["one", "other"]
  d_gaps_in : DefD g mg "gaps_in" s_gaps_in ["rows", "start", "end"]
  d_length_of : DefL g mg "length_of" s_length_of ["rows"]
  mT_length_of : ((g.cp "length_of").2, (("length_of" : Str) ++ ".<locals>.") ++ "<genexpr>") ∈ g.T
  hu_length_of : ∀ p ∈ g.T, p.1 = (g.cp "length_of").2 → p.2 = (("length_of" : Str) ++ ".<locals>.") ++ "<genexpr>"
  d_holds_at : DefL g mg "holds_at" s_holds_at ["rows", "when"]
  mT_holds_at : ((g.cp "holds_at").2, (("holds_at" : Str) ++ ".<locals>.") ++ "<genexpr>") ∈ g.T
  hu_holds_at : ∀ p ∈ g.T, p.1 = (g.cp "holds_at").2 → p.2 = (("holds_at" : Str) ++ ".<locals>.") ++ "<genexpr>"
  d_how_lies : DefD g mg "how_lies" s_how_lies ["one", "other"]
  d_plain_lies : DefD g mg "plain_lies" s_plain_lies ["one", "other"]
  d_how_many_at : DefD g mg "how_many_at" s_how_many_at ["rows"]
  d_most_at_once : DefD g mg "most_at_once" s_most_at_once ["rows"]
  d_in_at_least : DefD g mg "in_at_least" s_in_at_least ["rows", "many"]
  d_first_fit : DefD g mg "first_fit" s_first_fit ["free", "long", "step", "start"]
  d_moved_by : DefL g mg "moved_by" s_moved_by ["rows", "by"]
  mT_moved_by : ((g.cp "moved_by").2, (("moved_by" : Str) ++ ".<locals>.") ++ "<genexpr>") ∈ g.T
  hu_moved_by : ∀ p ∈ g.T, p.1 = (g.cp "moved_by").2 → p.2 = (("moved_by" : Str) ++ ".<locals>.") ++ "<genexpr>"
  d_wider : DefD g mg "wider" s_wider ["rows", "ahead", "behind"]
  d_fewest_points : DefL g mg "fewest_points" s_fewest_points ["rows"]
  mT_fewest_points : ((g.cp "fewest_points").2, (("fewest_points" : Str) ++ ".<locals>.") ++ "<genexpr>") ∈ g.T
  hu_fewest_points : ∀ p ∈ g.T, p.1 = (g.cp "fewest_points").2 → p.2 = (("fewest_points" : Str) ++ ".<locals>.") ++ "<genexpr>"
  d_most_apart : DefL g mg "most_apart" s_most_apart ["rows"]
  mT_most_apart : ((g.cp "most_apart").2, (("most_apart" : Str) ++ ".<locals>.") ++ "<genexpr>") ∈ g.T
  hu_most_apart : ∀ p ∈ g.T, p.1 = (g.cp "most_apart").2 → p.2 = (("most_apart" : Str) ++ ".<locals>.") ++ "<genexpr>"
  d__law_dice : DefD g mg "_law_dice" s__law_dice ["cell"]
  d__law_roll : DefD g mg "_law_roll" s__law_roll ["dice", "many"]
  d__law_rounds : DefD g mg "_law_rounds" s__law_rounds ["script", "most"]
  d__law_told : DefD g mg "_law_told" s__law_told ["what"]
  d__law_rows : DefD g mg "_law_rows" s__law_rows ["dice"]
  d__law_at : DefD g mg "_law_at" s__law_at ["rows", "when"]
  d__law_made : DefD g mg "_law_made" s__law_made ["times"]
  d__law_lies : DefD g mg "_law_lies" s__law_lies ["one", "other"]
  d__law_sets : DefD g mg "_law_sets" s__law_sets ["things"]
  d__law_clash : DefD g mg "_law_clash" s__law_clash ["rows", "places"]
  d__law_plain : DefL g mg "_law_plain" s__law_plain []
  mT__law_plain : ((g.cp "_law_plain").2, (("_law_plain" : Str) ++ ".<locals>.") ++ "<lambda>") ∈ g.T
  hu__law_plain : ∀ p ∈ g.T, p.1 = (g.cp "_law_plain").2 → p.2 = (("_law_plain" : Str) ++ ".<locals>.") ++ "<lambda>"
structure Tbs (g : GC) (mg : Str → Option Value) (base : Heap) : Prop where
  t_check_spans : LamX.TabB base mg (g.cp "check_spans").1 (g.cp "check_spans").2
  t_fewest_points : LamX.TabB base mg (g.cp "fewest_points").1 (g.cp "fewest_points").2
  t_holds_at : LamX.TabB base mg (g.cp "holds_at").1 (g.cp "holds_at").2
  t_length_of : LamX.TabB base mg (g.cp "length_of").1 (g.cp "length_of").2
  t_most_apart : LamX.TabB base mg (g.cp "most_apart").1 (g.cp "most_apart").2
  t_moved_by : LamX.TabB base mg (g.cp "moved_by").1 (g.cp "moved_by").2
  t__law_plain : LamX.TabB base mg (g.cp "_law_plain").1 (g.cp "_law_plain").2
section
variable {P : Program} {w : World} {g : GC} {mg : Str → Option Value} {base : Heap}
/-! _law_at -/
def y__law_at_1 : DE := dC (.int 1)
def b__law_at : DS := dRet (dBin aNe (dLc false (dIt (dVar 0)) (dgTup 2 (dgCons (dgName 2) (dgCons (dgName 3) (dgNil)))) (dB (dChain aLeT aLt (dVar 2) (dVar 1) (dVar 3))) y__law_at_1 [2, 3]) (dLst false (dNil)))
def f__law_at : List D → Store → R D := runB 4 b__law_at
theorem fn__law_at (T : Txt g mg) (B : Tbs g mg base) : FnD P w mg base g 1 "_law_at" 2 f__law_at := by
  refine (fn_D T.d__law_at sc__law_at rfl fun fa cdv A outer s H E O => ?_)
  exact ss_one (s_ret (pd_cmp (oNe O) (pd_lc false (own := [(("start" : Str), 2), (("end" : Str), 3)]) O (i_seq O (pd_var 0)) (blkOk_by (N := ["rows", "when", "start", "end"]) (sc := defScope s__law_at) (by decide +kernel)) (fun _ _ _ _ _ => g_tup (O.blk _ _ _ _ _) (gs_cons (g_name 2 (O.blk _ _ _ _ _)) (gs_cons (g_name 3 (O.blk _ _ _ _ _)) (gs_nil)))) (fun _ _ _ _ _ => ts_one (pt_chain (oLeT (O.blk _ _ _ _ _)) (oLt (O.blk _ _ _ _ _)) (pd_var 2) (pd_var 1) (pd_var 3))) (fun _ _ _ _ _ => pd_int)) (pd_lst false (pa_nil))))
/-! _law_clash -/
def y__law_clash_1 : DE := dC (.int 1)
def l__law_clash_1 : DS := dIfS (dB (dBin aNe (dLc false (dIt (dVar 1)) (dgName 3) (dAnd (dB (dBin aLt (dVar 3) (dVar 2))) (dAnd (dB (dBin aLt (dBin aIx (dBin aIx (dVar 0) (dVar 3)) (dC (.int 0))) (dBin aIx (dBin aIx (dVar 0) (dVar 2)) (dC (.int 1))))) (dB (dBin aLt (dBin aIx (dBin aIx (dVar 0) (dVar 2)) (dC (.int 0))) (dBin aIx (dBin aIx (dVar 0) (dVar 3)) (dC (.int 1))))))) y__law_clash_1 [3]) (dLst false (dNil)))) (dRet (dC (.bl true))) (dNext)
def b__law_clash : DS := dSeq (dFor (dIt (dVar 1)) (dgName 2) l__law_clash_1) (dRet (dC (.bl false)))
def f__law_clash : List D → Store → R D := runB 4 b__law_clash
theorem fn__law_clash (T : Txt g mg) (B : Tbs g mg base) : FnD P w mg base g 1 "_law_clash" 2 f__law_clash := by
  refine (fn_D T.d__law_clash sc__law_clash rfl fun fa cdv A outer s H E O => ?_)
  exact ss_cons (s_for O (i_seq O (pd_var 1)) (g_name 2 O) (ss_one (s_if (pt_cmp (oNe O) (pd_lc false (own := [(("j" : Str), 3)]) O (i_seq O (pd_var 1)) (blkOk_by (N := ["rows", "places", "k", "j"]) (sc := defScope s__law_clash) (by decide +kernel)) (fun _ _ _ _ _ => g_name 3 (O.blk _ _ _ _ _)) (fun _ _ _ _ _ => ts_one (pt_w (pw_and (pt_cmp (oLt (O.blk _ _ _ _ _)) (pd_var 3) (pd_var 2)) (pw_and (pt_cmp (oLt (O.blk _ _ _ _ _)) (pd_ix (O.blk _ _ _ _ _) (pd_ix (O.blk _ _ _ _ _) (pd_var 0) (pd_var 3)) (pd_int)) (pd_ix (O.blk _ _ _ _ _) (pd_ix (O.blk _ _ _ _ _) (pd_var 0) (pd_var 2)) (pd_int))) (pw_and1 (pt_cmp (oLt (O.blk _ _ _ _ _)) (pd_ix (O.blk _ _ _ _ _) (pd_ix (O.blk _ _ _ _ _) (pd_var 0) (pd_var 2)) (pd_int)) (pd_ix (O.blk _ _ _ _ _) (pd_ix (O.blk _ _ _ _ _) (pd_var 0) (pd_var 3)) (pd_int)))))))) (fun _ _ _ _ _ => pd_int)) (pd_lst false (pa_nil))) (ss_one (s_ret (pd_bl))) (ss_nil)))) (ss_one (s_ret (pd_bl)))
/-! _law_lies -/
def l__law_lies_1 : DS := dIfS (dB (dBin aEq (dVar 3) (dVar 4))) (dAsg (dBin (aAdd false) (dVar 2) (dLst false (dCons (dTup (dCons (dC (.str "same")) (dCons (dVar 5) (dNil)))) (dNil)))) (dgName 2)) (dIfS (dB (dBin aLeT (dBin aIx (dVar 3) (dC (.int 1))) (dBin aIx (dVar 4) (dC (.int 0))))) (dAsg (dBin (aAdd false) (dVar 2) (dLst false (dCons (dTup (dCons (dIf (dB (dBin aLt (dBin aIx (dVar 3) (dC (.int 1))) (dBin aIx (dVar 4) (dC (.int 0))))) (dC (.str "ahead")) (dC (.str "up to"))) (dCons (dVar 5) (dNil)))) (dNil)))) (dgName 2)) (dIfS (dAnd (dB (dBin aEq (dBin aIx (dVar 3) (dC (.int 0))) (dBin aIx (dVar 4) (dC (.int 0))))) (dB (dBin aLt (dBin aIx (dVar 3) (dC (.int 1))) (dBin aIx (dVar 4) (dC (.int 1)))))) (dAsg (dBin (aAdd false) (dVar 2) (dLst false (dCons (dTup (dCons (dC (.str "begins")) (dCons (dVar 5) (dNil)))) (dNil)))) (dgName 2)) (dIfS (dAnd (dB (dBin aEq (dBin aIx (dVar 3) (dC (.int 1))) (dBin aIx (dVar 4) (dC (.int 1))))) (dB (dBin aGt (dBin aIx (dVar 3) (dC (.int 0))) (dBin aIx (dVar 4) (dC (.int 0)))))) (dAsg (dBin (aAdd false) (dVar 2) (dLst false (dCons (dTup (dCons (dC (.str "ends")) (dCons (dVar 5) (dNil)))) (dNil)))) (dgName 2)) (dIfS (dAnd (dB (dBin aLt (dBin aIx (dVar 4) (dC (.int 0))) (dBin aIx (dVar 3) (dC (.int 0))))) (dB (dBin aLt (dBin aIx (dVar 3) (dC (.int 1))) (dBin aIx (dVar 4) (dC (.int 1)))))) (dAsg (dBin (aAdd false) (dVar 2) (dLst false (dCons (dTup (dCons (dC (.str "within")) (dCons (dVar 5) (dNil)))) (dNil)))) (dgName 2)) (dIfS (dB (dChain3 aLt aLt aLt (dBin aIx (dVar 3) (dC (.int 0))) (dBin aIx (dVar 4) (dC (.int 0))) (dBin aIx (dVar 3) (dC (.int 1))) (dBin aIx (dVar 4) (dC (.int 1))))) (dAsg (dBin (aAdd false) (dVar 2) (dLst false (dCons (dTup (dCons (dC (.str "over")) (dCons (dVar 5) (dNil)))) (dNil)))) (dgName 2)) (dNext))))))
def b__law_lies : DS := dSeq (dAsg (dLst false (dNil)) (dgName 2)) (dSeq (dFor (dIt (dLst false (dCons (dTup (dCons (dVar 0) (dCons (dVar 1) (dCons (dC (.bl false)) (dNil))))) (dCons (dTup (dCons (dVar 1) (dCons (dVar 0) (dCons (dC (.bl true)) (dNil))))) (dNil))))) (dgTup 3 (dgCons (dgName 3) (dgCons (dgName 4) (dgCons (dgName 5) (dgNil))))) l__law_lies_1) (dRet (dBin aIx (dVar 2) (dC (.int 0)))))
def f__law_lies : List D → Store → R D := runB 6 b__law_lies
theorem fn__law_lies (T : Txt g mg) (B : Tbs g mg base) : FnD P w mg base g 1 "_law_lies" 2 f__law_lies := by
  refine (fn_D T.d__law_lies sc__law_lies rfl fun fa cdv A outer s H E O => ?_)
  exact ss_cons (s_asg (pd_lst false (pa_nil)) (g_name 2 O)) (ss_cons (s_for O (i_seq O (pd_lst false (pa_cons (pd_tup (pa_cons (pd_var 0) (pa_cons (pd_var 1) (pa_cons (pd_bl) (pa_nil))))) (pa_cons (pd_tup (pa_cons (pd_var 1) (pa_cons (pd_var 0) (pa_cons (pd_bl) (pa_nil))))) (pa_nil))))) (g_tup O (gs_cons (g_name 3 O) (gs_cons (g_name 4 O) (gs_cons (g_name 5 O) (gs_nil))))) (ss_one (s_if (pt_cmp (oEq O) (pd_var 3) (pd_var 4)) (ss_one (s_asg (pd_bin (oAdd O) (pd_var 2) (pd_lst false (pa_cons (pd_tup (pa_cons (pd_str) (pa_cons (pd_var 5) (pa_nil)))) (pa_nil)))) (g_name 2 O))) (ss_one (s_if (pt_cmp (oLeT O) (pd_ix O (pd_var 3) (pd_int)) (pd_ix O (pd_var 4) (pd_int))) (ss_one (s_asg (pd_bin (oAdd O) (pd_var 2) (pd_lst false (pa_cons (pd_tup (pa_cons (pd_if (pt_cmp (oLt O) (pd_ix O (pd_var 3) (pd_int)) (pd_ix O (pd_var 4) (pd_int))) (pd_str) (pd_str)) (pa_cons (pd_var 5) (pa_nil)))) (pa_nil)))) (g_name 2 O))) (ss_one (s_if (pt_w (pw_and (pt_cmp (oEq O) (pd_ix O (pd_var 3) (pd_int)) (pd_ix O (pd_var 4) (pd_int))) (pw_and1 (pt_cmp (oLt O) (pd_ix O (pd_var 3) (pd_int)) (pd_ix O (pd_var 4) (pd_int)))))) (ss_one (s_asg (pd_bin (oAdd O) (pd_var 2) (pd_lst false (pa_cons (pd_tup (pa_cons (pd_str) (pa_cons (pd_var 5) (pa_nil)))) (pa_nil)))) (g_name 2 O))) (ss_one (s_if (pt_w (pw_and (pt_cmp (oEq O) (pd_ix O (pd_var 3) (pd_int)) (pd_ix O (pd_var 4) (pd_int))) (pw_and1 (pt_cmp oGt (pd_ix O (pd_var 3) (pd_int)) (pd_ix O (pd_var 4) (pd_int)))))) (ss_one (s_asg (pd_bin (oAdd O) (pd_var 2) (pd_lst false (pa_cons (pd_tup (pa_cons (pd_str) (pa_cons (pd_var 5) (pa_nil)))) (pa_nil)))) (g_name 2 O))) (ss_one (s_if (pt_w (pw_and (pt_cmp (oLt O) (pd_ix O (pd_var 4) (pd_int)) (pd_ix O (pd_var 3) (pd_int))) (pw_and1 (pt_cmp (oLt O) (pd_ix O (pd_var 3) (pd_int)) (pd_ix O (pd_var 4) (pd_int)))))) (ss_one (s_asg (pd_bin (oAdd O) (pd_var 2) (pd_lst false (pa_cons (pd_tup (pa_cons (pd_str) (pa_cons (pd_var 5) (pa_nil)))) (pa_nil)))) (g_name 2 O))) (ss_one (s_if (pt_chain3 (oLt O) (oLt O) (oLt O) (pd_ix O (pd_var 3) (pd_int)) (pd_ix O (pd_var 4) (pd_int)) (pd_ix O (pd_var 3) (pd_int)) (pd_ix O (pd_var 4) (pd_int))) (ss_one (s_asg (pd_bin (oAdd O) (pd_var 2) (pd_lst false (pa_cons (pd_tup (pa_cons (pd_str) (pa_cons (pd_var 5) (pa_nil)))) (pa_nil)))) (g_name 2 O))) (ss_nil)))))))))))))) (ss_one (s_ret (pd_ix O (pd_var 2) (pd_int)))))
/-! _law_made -/
def l__law_made_1 : DS := dAsg (dIf (dAnd (dB (dBin aNe (dVar 1) (dLst false (dNil)))) (dB (dBin aEq (dBin aIx (dBin aIx (dVar 1) (dNeg (dC (.int 1)))) (dC (.int 1))) (dVar 2)))) (dBin (aAdd false) (dSl false (dVar 1) (dNoP) (dP (dNeg (dC (.int 1))))) (dLst false (dCons (dTup (dCons (dBin aIx (dBin aIx (dVar 1) (dNeg (dC (.int 1)))) (dC (.int 0))) (dCons (dBin (aAdd false) (dVar 2) (dC (.int 1))) (dNil)))) (dNil)))) (dBin (aAdd false) (dVar 1) (dLst false (dCons (dTup (dCons (dVar 2) (dCons (dBin (aAdd false) (dVar 2) (dC (.int 1))) (dNil)))) (dNil))))) (dgName 1)
def b__law_made : DS := dSeq (dAsg (dLst false (dNil)) (dgName 1)) (dSeq (dFor (dIt (dCall (bSortedA false) (dCons (dVar 0) (dNil)))) (dgName 2) l__law_made_1) (dRet (dVar 1)))
def f__law_made : List D → Store → R D := runB 3 b__law_made
theorem fn__law_made (T : Txt g mg) (B : Tbs g mg base) : FnD P w mg base g 1 "_law_made" 1 f__law_made := by
  refine (fn_D T.d__law_made sc__law_made rfl fun fa cdv A outer s H E O => ?_)
  exact ss_cons (s_asg (pd_lst false (pa_nil)) (g_name 1 O)) (ss_cons (s_for O (i_seq O (pd_callB (cSortedA (b := false) O) T.n_sorted PyProof.Rows.boot_sorted (pa_cons (pd_var 0) (pa_nil)))) (g_name 2 O) (ss_one (s_asg (pd_if (pt_w (pw_and (pt_cmp (oNe O) (pd_var 1) (pd_lst false (pa_nil))) (pw_and1 (pt_cmp (oEq O) (pd_ix O (pd_ix O (pd_var 1) (pd_neg (pd_int))) (pd_int)) (pd_var 2))))) (pd_bin (oAdd O) (pd_slice false O (pd_var 1) (po_none) (po_some (pd_neg (pd_int)))) (pd_lst false (pa_cons (pd_tup (pa_cons (pd_ix O (pd_ix O (pd_var 1) (pd_neg (pd_int))) (pd_int)) (pa_cons (pd_bin (oAdd O) (pd_var 2) (pd_int)) (pa_nil)))) (pa_nil)))) (pd_bin (oAdd O) (pd_var 1) (pd_lst false (pa_cons (pd_tup (pa_cons (pd_var 2) (pa_cons (pd_bin (oAdd O) (pd_var 2) (pd_int)) (pa_nil)))) (pa_nil))))) (g_name 1 O)))) (ss_one (s_ret (pd_var 1))))
/-! check_spans -/
def y_check_spans_1 : DE := dBin aLeT (dVar 2) (dVar 1)
def b_check_spans : DS := dIfS (dTru (dAnyG (dGx (dIt (dVar 0)) (dgTup 2 (dgCons (dgName 1) (dgCons (dgName 2) (dgNil)))) (dYes) y_check_spans_1 [1, 2]))) (dRaise "SpanError") (dNext)
def f_check_spans : List D → Store → R D := runB 3 b_check_spans
theorem fn_check_spans (T : Txt g mg) (B : Tbs g mg base) : FnD P w mg base g 6 "check_spans" 1 f_check_spans := by
  refine (fn_G T.d_check_spans B.t_check_spans T.mT_check_spans T.hu_check_spans sc_check_spans rfl fun fa cdv A outer s H E O M => ?_)
  exact ss_one (s_if (pt_tru O (pd_anyG O (pg_gx (own := [(("start" : Str), 1), (("end" : Str), 2)]) (j := 0) O M (i_seq O (pd_var 0)) (gxS_by (N := ["rows", "start", "end"]) (sc := defScope s_check_spans) (by decide +kernel)) (fun A s H L cd fp pn O => g_tup O (gs_cons (g_name 1 O) (gs_cons (g_name 2 O) (gs_nil)))) (fun A s H L cd fp pn O => ts_nil) (fun A s H L cd fp pn O => pd_cmp (oLeT O) (pd_var 2) (pd_var 1))) (by decide) T.n_any)) (ss_one (s_raise O T.e_SpanError)) (ss_nil))
/-! joined -/
def l_joined_1 : DS := dIfS (dAnd (dB (dBin aNe (dVar 1) (dLst false (dNil)))) (dB (dBin aLeT (dVar 2) (dBin aIx (dBin aIx (dVar 1) (dNeg (dC (.int 1)))) (dC (.int 1)))))) (dSetL (dTup (dCons (dBin aIx (dBin aIx (dVar 1) (dNeg (dC (.int 1)))) (dC (.int 0))) (dCons (dCall bMax2 (dCons (dBin aIx (dBin aIx (dVar 1) (dNeg (dC (.int 1)))) (dC (.int 1))) (dCons (dVar 3) (dNil)))) (dNil)))) (dVar 1) (dNeg (dC (.int 1)))) (dDrop (dAppend (dVar 1) (dTup (dCons (dVar 2) (dCons (dVar 3) (dNil))))))
def b_joined : DS := dSeq (dDrop (dCall f_check_spans (dCons (dVar 0) (dNil)))) (dSeq (dAsg (dLst true (dNil)) (dgName 1)) (dSeq (dFor (dIt (dCall (bSortedA false) (dCons (dVar 0) (dNil)))) (dgTup 2 (dgCons (dgName 2) (dgCons (dgName 3) (dgNil)))) l_joined_1) (dRet (dCall bTuple (dCons (dVar 1) (dNil))))))
def f_joined : List D → Store → R D := trim (runB 4 b_joined)
theorem fn_joined (T : Txt g mg) (B : Tbs g mg base) : FnD P w mg base g 7 "joined" 1 f_joined := by
  have F_check_spans := (fn_check_spans (P := P) (w := w) (base := base) T B)
  refine FnD.scope (fn_D T.d_joined sc_joined rfl fun fa cdv A outer s H E O => ?_)
  exact ss_cons (s_expr (pd_call O F_check_spans (by decide) (pa_cons (pd_var 0) (pa_nil)) (len_cons_ (fun _ _ _ _ h => len_nil_ h)))) (ss_cons (s_asg (pd_lst true (pa_nil)) (g_name 1 O)) (ss_cons (s_for O (i_seq O (pd_callB (cSortedA (b := false) O) T.n_sorted PyProof.Rows.boot_sorted (pa_cons (pd_var 0) (pa_nil)))) (g_tup O (gs_cons (g_name 2 O) (gs_cons (g_name 3 O) (gs_nil)))) (ss_one (s_if (pt_w (pw_and (pt_cmp (oNe O) (pd_var 1) (pd_lst false (pa_nil))) (pw_and1 (pt_cmp (oLeT O) (pd_var 2) (pd_ix O (pd_ix O (pd_var 1) (pd_neg (pd_int))) (pd_int)))))) (ss_one (s_setL (pd_tup (pa_cons (pd_ix O (pd_ix O (pd_var 1) (pd_neg (pd_int))) (pd_int)) (pa_cons (pd_callB (cMax2 O) T.n_max PyProof.Rows.boot_max (pa_cons (pd_ix O (pd_ix O (pd_var 1) (pd_neg (pd_int))) (pd_int)) (pa_cons (pd_var 3) (pa_nil)))) (pa_nil)))) (pd_var 1) (pd_neg (pd_int)))) (ss_one (s_expr (pd_append O (pd_var 1) (pd_tup (pa_cons (pd_var 2) (pa_cons (pd_var 3) (pa_nil)))))))))) (ss_one (s_ret (pd_callT (cTuple O) T.n_tuple PyProof.Rows.boot_tuple (pa_cons (pd_var 1) (pa_nil)))))))
/-! common -/
def l_common_1 : DS := dIfS (dB (dBin aLt (dCall bMax2 (dCons (dVar 5) (dCons (dVar 7) (dNil)))) (dCall bMin2 (dCons (dVar 6) (dCons (dVar 8) (dNil)))))) (dDrop (dAppend (dVar 4) (dTup (dCons (dCall bMax2 (dCons (dVar 5) (dCons (dVar 7) (dNil)))) (dCons (dCall bMin2 (dCons (dVar 6) (dCons (dVar 8) (dNil)))) (dNil)))))) (dNext)
def l_common_2 : DS := dFor (dIt (dVar 3)) (dgTup 2 (dgCons (dgName 7) (dgCons (dgName 8) (dgNil)))) l_common_1
def b_common : DS := dSeq (dPar [2, 3] (dCons (dCall f_joined (dCons (dVar 0) (dNil))) (dCons (dCall f_joined (dCons (dVar 1) (dNil))) (dNil)))) (dSeq (dAsg (dLst true (dNil)) (dgName 4)) (dSeq (dFor (dIt (dVar 2)) (dgTup 2 (dgCons (dgName 5) (dgCons (dgName 6) (dgNil)))) l_common_2) (dRet (dCall bTuple (dCons (dVar 4) (dNil))))))
def f_common : List D → Store → R D := trim (runB 9 b_common)
theorem fn_common (T : Txt g mg) (B : Tbs g mg base) : FnD P w mg base g 8 "common" 2 f_common := by
  have F_joined := (fn_joined (P := P) (w := w) (base := base) T B)
  refine FnD.scope (fn_D T.d_common sc_common rfl fun fa cdv A outer s H E O => ?_)
  exact ss_cons (s_par (i := 2) (j := 3) O (pa_cons (pd_call O F_joined (by decide) (pa_cons (pd_var 0) (pa_nil)) (len_cons_ (fun _ _ _ _ h => len_nil_ h))) (pa_cons (pd_call O F_joined (by decide) (pa_cons (pd_var 1) (pa_nil)) (len_cons_ (fun _ _ _ _ h => len_nil_ h))) (pa_nil)))) (ss_cons (s_asg (pd_lst true (pa_nil)) (g_name 4 O)) (ss_cons (s_for O (i_seq O (pd_var 2)) (g_tup O (gs_cons (g_name 5 O) (gs_cons (g_name 6 O) (gs_nil)))) (ss_one (s_for O (i_seq O (pd_var 3)) (g_tup O (gs_cons (g_name 7 O) (gs_cons (g_name 8 O) (gs_nil)))) (ss_one (s_if (pt_cmp (oLt O) (pd_callB (cMax2 O) T.n_max PyProof.Rows.boot_max (pa_cons (pd_var 5) (pa_cons (pd_var 7) (pa_nil)))) (pd_callB (cMin2 O) T.n_min PyProof.Rows.boot_min (pa_cons (pd_var 6) (pa_cons (pd_var 8) (pa_nil))))) (ss_one (s_expr (pd_append O (pd_var 4) (pd_tup (pa_cons (pd_callB (cMax2 O) T.n_max PyProof.Rows.boot_max (pa_cons (pd_var 5) (pa_cons (pd_var 7) (pa_nil)))) (pa_cons (pd_callB (cMin2 O) T.n_min PyProof.Rows.boot_min (pa_cons (pd_var 6) (pa_cons (pd_var 8) (pa_nil)))) (pa_nil))))))) (ss_nil)))))) (ss_one (s_ret (pd_callT (cTuple O) T.n_tuple PyProof.Rows.boot_tuple (pa_cons (pd_var 4) (pa_nil)))))))
/-! without -/
def l_without_1 : DS := dIfS (dAnd (dB (dBin aGt (dVar 8) (dVar 6))) (dB (dBin aLt (dVar 7) (dVar 5)))) (dSeq (dIfS (dB (dBin aGt (dVar 7) (dVar 6))) (dDrop (dAppend (dVar 2) (dTup (dCons (dVar 6) (dCons (dVar 7) (dNil)))))) (dNext)) (dAsg (dCall bMax2 (dCons (dVar 6) (dCons (dVar 8) (dNil)))) (dgName 6))) (dNext)
def l_without_2 : DS := dSeq (dAsg (dVar 4) (dgName 6)) (dSeq (dFor (dIt (dVar 3)) (dgTup 2 (dgCons (dgName 7) (dgCons (dgName 8) (dgNil)))) l_without_1) (dIfS (dB (dBin aLt (dVar 6) (dVar 5))) (dDrop (dAppend (dVar 2) (dTup (dCons (dVar 6) (dCons (dVar 5) (dNil)))))) (dNext)))
def b_without : DS := dSeq (dAsg (dLst true (dNil)) (dgName 2)) (dSeq (dAsg (dCall f_joined (dCons (dVar 1) (dNil))) (dgName 3)) (dSeq (dFor (dIt (dCall f_joined (dCons (dVar 0) (dNil)))) (dgTup 2 (dgCons (dgName 4) (dgCons (dgName 5) (dgNil)))) l_without_2) (dRet (dCall bTuple (dCons (dVar 2) (dNil))))))
def f_without : List D → Store → R D := trim (runB 9 b_without)
theorem fn_without (T : Txt g mg) (B : Tbs g mg base) : FnD P w mg base g 8 "without" 2 f_without := by
  have F_joined := (fn_joined (P := P) (w := w) (base := base) T B)
  refine FnD.scope (fn_D T.d_without sc_without rfl fun fa cdv A outer s H E O => ?_)
  exact ss_cons (s_asg (pd_lst true (pa_nil)) (g_name 2 O)) (ss_cons (s_asg (pd_call O F_joined (by decide) (pa_cons (pd_var 1) (pa_nil)) (len_cons_ (fun _ _ _ _ h => len_nil_ h))) (g_name 3 O)) (ss_cons (s_for O (i_seq O (pd_call O F_joined (by decide) (pa_cons (pd_var 0) (pa_nil)) (len_cons_ (fun _ _ _ _ h => len_nil_ h)))) (g_tup O (gs_cons (g_name 4 O) (gs_cons (g_name 5 O) (gs_nil)))) (ss_cons (s_asg (pd_var 4) (g_name 6 O)) (ss_cons (s_for O (i_seq O (pd_var 3)) (g_tup O (gs_cons (g_name 7 O) (gs_cons (g_name 8 O) (gs_nil)))) (ss_one (s_if (pt_w (pw_and (pt_cmp oGt (pd_var 8) (pd_var 6)) (pw_and1 (pt_cmp (oLt O) (pd_var 7) (pd_var 5))))) (ss_cons (s_if (pt_cmp oGt (pd_var 7) (pd_var 6)) (ss_one (s_expr (pd_append O (pd_var 2) (pd_tup (pa_cons (pd_var 6) (pa_cons (pd_var 7) (pa_nil))))))) (ss_nil)) (ss_one (s_asg (pd_callB (cMax2 O) T.n_max PyProof.Rows.boot_max (pa_cons (pd_var 6) (pa_cons (pd_var 8) (pa_nil)))) (g_name 6 O)))) (ss_nil)))) (ss_one (s_if (pt_cmp (oLt O) (pd_var 6) (pd_var 5)) (ss_one (s_expr (pd_append O (pd_var 2) (pd_tup (pa_cons (pd_var 6) (pa_cons (pd_var 5) (pa_nil))))))) (ss_nil)))))) (ss_one (s_ret (pd_callT (cTuple O) T.n_tuple PyProof.Rows.boot_tuple (pa_cons (pd_var 2) (pa_nil)))))))
/-! either -/
def b_either : DS := dRet (dCall f_joined (dCons (dBin (aAdd false) (dCall f_without (dCons (dVar 0) (dCons (dVar 1) (dNil)))) (dCall f_without (dCons (dVar 1) (dCons (dVar 0) (dNil))))) (dNil)))
def f_either : List D → Store → R D := runB 2 b_either
theorem fn_either (T : Txt g mg) (B : Tbs g mg base) : FnD P w mg base g 9 "either" 2 f_either := by
  have F_joined := (fn_joined (P := P) (w := w) (base := base) T B)
  have F_without := (fn_without (P := P) (w := w) (base := base) T B)
  refine (fn_D T.d_either sc_either rfl fun fa cdv A outer s H E O => ?_)
  exact ss_one (s_ret (pd_call O F_joined (by decide) (pa_cons (pd_bin (oAdd O) (pd_call O F_without (by decide) (pa_cons (pd_var 0) (pa_cons (pd_var 1) (pa_nil))) (len_cons_ (len_cons_ (fun _ _ _ _ h => len_nil_ h)))) (pd_call O F_without (by decide) (pa_cons (pd_var 1) (pa_cons (pd_var 0) (pa_nil))) (len_cons_ (len_cons_ (fun _ _ _ _ h => len_nil_ h))))) (pa_nil)) (len_cons_ (fun _ _ _ _ h => len_nil_ h))))
/-! fewest_points -/
def y_fewest_points_1 : DE := dTup (dCons (dVar 2) (dCons (dVar 3) (dNil)))
def l_fewest_points_1 : DS := dIfS (dOr (dB (dBin aEq (dVar 1) (dLst false (dNil)))) (dB (dBin aLt (dBin aIx (dVar 1) (dNeg (dC (.int 1)))) (dVar 3)))) (dDrop (dAppend (dVar 1) (dBin aSub (dVar 2) (dC (.int 1))))) (dNext)
def b_fewest_points : DS := dSeq (dDrop (dCall f_check_spans (dCons (dVar 0) (dNil)))) (dSeq (dAsg (dLst true (dNil)) (dgName 1)) (dSeq (dFor (dIt (dSortG false (dGx (dIt (dVar 0)) (dgTup 2 (dgCons (dgName 3) (dgCons (dgName 2) (dgNil)))) (dYes) y_fewest_points_1 [3, 2]))) (dgTup 2 (dgCons (dgName 2) (dgCons (dgName 3) (dgNil)))) l_fewest_points_1) (dRet (dCall bTuple (dCons (dVar 1) (dNil))))))
def f_fewest_points : List D → Store → R D := trim (runB 4 b_fewest_points)
theorem fn_fewest_points (T : Txt g mg) (B : Tbs g mg base) : FnD P w mg base g 12 "fewest_points" 1 f_fewest_points := by
  have F_check_spans := (fn_check_spans (P := P) (w := w) (base := base) T B)
  refine FnD.scope (fn_G T.d_fewest_points B.t_fewest_points T.mT_fewest_points T.hu_fewest_points sc_fewest_points rfl fun fa cdv A outer s H E O M => ?_)
  exact ss_cons (s_expr (pd_call O F_check_spans (by decide) (pa_cons (pd_var 0) (pa_nil)) (len_cons_ (fun _ _ _ _ h => len_nil_ h)))) (ss_cons (s_asg (pd_lst true (pa_nil)) (g_name 1 O)) (ss_cons (s_for O (i_seq O (pd_sortG false O (pg_gx (own := [(("start" : Str), 3), (("end" : Str), 2)]) (j := 6) O M (i_seq O (pd_var 0)) (gxS_by (N := ["rows", "found", "end", "start"]) (sc := defScope s_fewest_points) (by decide +kernel)) (fun A s H L cd fp pn O => g_tup O (gs_cons (g_name 3 O) (gs_cons (g_name 2 O) (gs_nil)))) (fun A s H L cd fp pn O => ts_nil) (fun A s H L cd fp pn O => pd_tup (pa_cons (pd_var 2) (pa_cons (pd_var 3) (pa_nil))))) (by decide) T.n_sorted)) (g_tup O (gs_cons (g_name 2 O) (gs_cons (g_name 3 O) (gs_nil)))) (ss_one (s_if (pt_w (pw_or (pt_cmp (oEq O) (pd_var 1) (pd_lst false (pa_nil))) (pw_or1 (pt_cmp (oLt O) (pd_ix O (pd_var 1) (pd_neg (pd_int))) (pd_var 3))))) (ss_one (s_expr (pd_append O (pd_var 1) (pd_bin oSub (pd_var 2) (pd_int))))) (ss_nil)))) (ss_one (s_ret (pd_callT (cTuple O) T.n_tuple PyProof.Rows.boot_tuple (pa_cons (pd_var 1) (pa_nil)))))))
/-! first_fit -/
def l_first_fit_1 : DS := dSeq (dAsg (dCall bMax2 (dCons (dVar 4) (dCons (dVar 3) (dNil)))) (dgName 6)) (dSeq (dAug 6 aAddI (dBin aMod (dBin aSub (dC (.int 0)) (dVar 6)) (dVar 2))) (dIfS (dB (dBin aLeT (dBin (aAdd false) (dVar 6) (dVar 1)) (dVar 5))) (dRet (dVar 6)) (dNext)))
def b_first_fit : DS := dSeq (dIfS (dB (dBin aLt (dCall bMin2 (dCons (dVar 1) (dCons (dVar 2) (dNil)))) (dC (.int 1)))) (dRaise "SpanError") (dNext)) (dSeq (dFor (dIt (dCall f_joined (dCons (dVar 0) (dNil)))) (dgTup 2 (dgCons (dgName 4) (dgCons (dgName 5) (dgNil)))) l_first_fit_1) (dRet (dC .non)))
def f_first_fit : List D → Store → R D := runB 7 b_first_fit
theorem fn_first_fit (T : Txt g mg) (B : Tbs g mg base) : FnD P w mg base g 8 "first_fit" 4 f_first_fit := by
  have F_joined := (fn_joined (P := P) (w := w) (base := base) T B)
  refine (fn_D T.d_first_fit sc_first_fit rfl fun fa cdv A outer s H E O => ?_)
  exact ss_cons (s_if (pt_cmp (oLt O) (pd_callB (cMin2 O) T.n_min PyProof.Rows.boot_min (pa_cons (pd_var 1) (pa_cons (pd_var 2) (pa_nil)))) (pd_int)) (ss_one (s_raise O T.e_SpanError)) (ss_nil)) (ss_cons (s_for O (i_seq O (pd_call O F_joined (by decide) (pa_cons (pd_var 0) (pa_nil)) (len_cons_ (fun _ _ _ _ h => len_nil_ h)))) (g_tup O (gs_cons (g_name 4 O) (gs_cons (g_name 5 O) (gs_nil)))) (ss_cons (s_asg (pd_callB (cMax2 O) T.n_max PyProof.Rows.boot_max (pa_cons (pd_var 4) (pa_cons (pd_var 3) (pa_nil)))) (g_name 6 O)) (ss_cons (s_addI (i := 6) O (pd_bin oMod (pd_bin oSub (pd_int) (pd_var 6)) (pd_var 2))) (ss_one (s_if (pt_cmp (oLeT O) (pd_bin (oAdd O) (pd_var 6) (pd_var 1)) (pd_var 5)) (ss_one (s_ret (pd_var 6))) (ss_nil)))))) (ss_one (s_ret (pd_non))))
/-! gaps_in -/
def b_gaps_in : DS := dRet (dCall f_without (dCons (dTup (dCons (dTup (dCons (dVar 1) (dCons (dVar 2) (dNil)))) (dNil))) (dCons (dVar 0) (dNil))))
def f_gaps_in : List D → Store → R D := runB 3 b_gaps_in
theorem fn_gaps_in (T : Txt g mg) (B : Tbs g mg base) : FnD P w mg base g 9 "gaps_in" 3 f_gaps_in := by
  have F_without := (fn_without (P := P) (w := w) (base := base) T B)
  refine (fn_D T.d_gaps_in sc_gaps_in rfl fun fa cdv A outer s H E O => ?_)
  exact ss_one (s_ret (pd_call O F_without (by decide) (pa_cons (pd_tup (pa_cons (pd_tup (pa_cons (pd_var 1) (pa_cons (pd_var 2) (pa_nil)))) (pa_nil))) (pa_cons (pd_var 0) (pa_nil))) (len_cons_ (len_cons_ (fun _ _ _ _ h => len_nil_ h)))))
/-! holds_at -/
def y_holds_at_1 : DE := dChain aLeT aLt (dVar 2) (dVar 1) (dVar 3)
def b_holds_at : DS := dSeq (dDrop (dCall f_check_spans (dCons (dVar 0) (dNil)))) (dRet (dAnyG (dGx (dIt (dVar 0)) (dgTup 2 (dgCons (dgName 2) (dgCons (dgName 3) (dgNil)))) (dYes) y_holds_at_1 [2, 3])))
def f_holds_at : List D → Store → R D := runB 4 b_holds_at
theorem fn_holds_at (T : Txt g mg) (B : Tbs g mg base) : FnD P w mg base g 12 "holds_at" 2 f_holds_at := by
  have F_check_spans := (fn_check_spans (P := P) (w := w) (base := base) T B)
  refine (fn_G T.d_holds_at B.t_holds_at T.mT_holds_at T.hu_holds_at sc_holds_at rfl fun fa cdv A outer s H E O M => ?_)
  exact ss_cons (s_expr (pd_call O F_check_spans (by decide) (pa_cons (pd_var 0) (pa_nil)) (len_cons_ (fun _ _ _ _ h => len_nil_ h)))) (ss_one (s_ret (pd_anyG O (pg_gx (own := [(("start" : Str), 2), (("end" : Str), 3)]) (j := 6) O M (i_seq O (pd_var 0)) (gxS_by (N := ["rows", "when", "start", "end"]) (sc := defScope s_holds_at) (by decide +kernel)) (fun A s H L cd fp pn O => g_tup O (gs_cons (g_name 2 O) (gs_cons (g_name 3 O) (gs_nil)))) (fun A s H L cd fp pn O => ts_nil) (fun A s H L cd fp pn O => pd_chain (oLeT O) (oLt O) (pd_var 2) (pd_var 1) (pd_var 3))) (by decide) T.n_any)))
/-! plain_lies -/
def b_plain_lies : DS := dSeq (dIfS (dB (dBin aEq (dVar 0) (dVar 1))) (dRet (dC (.str "same"))) (dNext)) (dSeq (dIfS (dB (dBin aLt (dBin aIx (dVar 0) (dC (.int 1))) (dBin aIx (dVar 1) (dC (.int 0))))) (dRet (dC (.str "ahead"))) (dNext)) (dSeq (dIfS (dB (dBin aEq (dBin aIx (dVar 0) (dC (.int 1))) (dBin aIx (dVar 1) (dC (.int 0))))) (dRet (dC (.str "up to"))) (dNext)) (dSeq (dIfS (dB (dBin aEq (dBin aIx (dVar 0) (dC (.int 0))) (dBin aIx (dVar 1) (dC (.int 0))))) (dRet (dIf (dB (dBin aLt (dBin aIx (dVar 0) (dC (.int 1))) (dBin aIx (dVar 1) (dC (.int 1))))) (dC (.str "begins")) (dC .non))) (dNext)) (dSeq (dIfS (dB (dBin aEq (dBin aIx (dVar 0) (dC (.int 1))) (dBin aIx (dVar 1) (dC (.int 1))))) (dRet (dIf (dB (dBin aGt (dBin aIx (dVar 0) (dC (.int 0))) (dBin aIx (dVar 1) (dC (.int 0))))) (dC (.str "ends")) (dC .non))) (dNext)) (dSeq (dIfS (dAnd (dB (dBin aGt (dBin aIx (dVar 0) (dC (.int 0))) (dBin aIx (dVar 1) (dC (.int 0))))) (dB (dBin aLt (dBin aIx (dVar 0) (dC (.int 1))) (dBin aIx (dVar 1) (dC (.int 1)))))) (dRet (dC (.str "within"))) (dNext)) (dRet (dIf (dB (dChain3 aLt aLt aLt (dBin aIx (dVar 0) (dC (.int 0))) (dBin aIx (dVar 1) (dC (.int 0))) (dBin aIx (dVar 0) (dC (.int 1))) (dBin aIx (dVar 1) (dC (.int 1))))) (dC (.str "over")) (dC .non))))))))
def f_plain_lies : List D → Store → R D := runB 2 b_plain_lies
theorem fn_plain_lies (T : Txt g mg) (B : Tbs g mg base) : FnD P w mg base g 1 "plain_lies" 2 f_plain_lies := by
  refine (fn_D T.d_plain_lies sc_plain_lies rfl fun fa cdv A outer s H E O => ?_)
  exact ss_cons (s_if (pt_cmp (oEq O) (pd_var 0) (pd_var 1)) (ss_one (s_ret (pd_str))) (ss_nil)) (ss_cons (s_if (pt_cmp (oLt O) (pd_ix O (pd_var 0) (pd_int)) (pd_ix O (pd_var 1) (pd_int))) (ss_one (s_ret (pd_str))) (ss_nil)) (ss_cons (s_if (pt_cmp (oEq O) (pd_ix O (pd_var 0) (pd_int)) (pd_ix O (pd_var 1) (pd_int))) (ss_one (s_ret (pd_str))) (ss_nil)) (ss_cons (s_if (pt_cmp (oEq O) (pd_ix O (pd_var 0) (pd_int)) (pd_ix O (pd_var 1) (pd_int))) (ss_one (s_ret (pd_if (pt_cmp (oLt O) (pd_ix O (pd_var 0) (pd_int)) (pd_ix O (pd_var 1) (pd_int))) (pd_str) (pd_non)))) (ss_nil)) (ss_cons (s_if (pt_cmp (oEq O) (pd_ix O (pd_var 0) (pd_int)) (pd_ix O (pd_var 1) (pd_int))) (ss_one (s_ret (pd_if (pt_cmp oGt (pd_ix O (pd_var 0) (pd_int)) (pd_ix O (pd_var 1) (pd_int))) (pd_str) (pd_non)))) (ss_nil)) (ss_cons (s_if (pt_w (pw_and (pt_cmp oGt (pd_ix O (pd_var 0) (pd_int)) (pd_ix O (pd_var 1) (pd_int))) (pw_and1 (pt_cmp (oLt O) (pd_ix O (pd_var 0) (pd_int)) (pd_ix O (pd_var 1) (pd_int)))))) (ss_one (s_ret (pd_str))) (ss_nil)) (ss_one (s_ret (pd_if (pt_chain3 (oLt O) (oLt O) (oLt O) (pd_ix O (pd_var 0) (pd_int)) (pd_ix O (pd_var 1) (pd_int)) (pd_ix O (pd_var 0) (pd_int)) (pd_ix O (pd_var 1) (pd_int))) (pd_str) (pd_non)))))))))
/-! how_lies -/
def b_how_lies : DS := dSeq (dDrop (dCall f_check_spans (dCons (dTup (dCons (dVar 0) (dCons (dVar 1) (dNil)))) (dNil)))) (dSeq (dAsg (dCall f_plain_lies (dCons (dVar 0) (dCons (dVar 1) (dNil)))) (dgName 2)) (dSeq (dIfS (dB (dBin aNotN (dVar 2) (dC .non))) (dRet (dTup (dCons (dVar 2) (dCons (dC (.bl false)) (dNil))))) (dNext)) (dRet (dTup (dCons (dCall f_plain_lies (dCons (dVar 1) (dCons (dVar 0) (dNil)))) (dCons (dC (.bl true)) (dNil)))))))
def f_how_lies : List D → Store → R D := runB 3 b_how_lies
theorem fn_how_lies (T : Txt g mg) (B : Tbs g mg base) : FnD P w mg base g 7 "how_lies" 2 f_how_lies := by
  have F_check_spans := (fn_check_spans (P := P) (w := w) (base := base) T B)
  have F_plain_lies := (fn_plain_lies (P := P) (w := w) (base := base) T B)
  refine (fn_D T.d_how_lies sc_how_lies rfl fun fa cdv A outer s H E O => ?_)
  exact ss_cons (s_expr (pd_call O F_check_spans (by decide) (pa_cons (pd_tup (pa_cons (pd_var 0) (pa_cons (pd_var 1) (pa_nil)))) (pa_nil)) (len_cons_ (fun _ _ _ _ h => len_nil_ h)))) (ss_cons (s_asg (pd_call O F_plain_lies (by decide) (pa_cons (pd_var 0) (pa_cons (pd_var 1) (pa_nil))) (len_cons_ (len_cons_ (fun _ _ _ _ h => len_nil_ h)))) (g_name 2 O)) (ss_cons (s_if (pt_cmp oNotN (pd_var 2) (pd_non)) (ss_one (s_ret (pd_tup (pa_cons (pd_var 2) (pa_cons (pd_bl) (pa_nil)))))) (ss_nil)) (ss_one (s_ret (pd_tup (pa_cons (pd_call O F_plain_lies (by decide) (pa_cons (pd_var 1) (pa_cons (pd_var 0) (pa_nil))) (len_cons_ (len_cons_ (fun _ _ _ _ h => len_nil_ h)))) (pa_cons (pd_bl) (pa_nil))))))))
/-! how_many_at -/
def y_how_many_at_1 : DE := dC (.int 1)
def l_how_many_at_1 : DS := dSeq (dAsg (dCall bLen (dCons (dLc false (dIt (dVar 0)) (dgTup 2 (dgCons (dgName 7) (dgCons (dgName 8) (dgNil)))) (dAnd (dB (dBin aLeT (dVar 7) (dVar 4))) (dB (dBin aLeT (dVar 5) (dVar 8)))) y_how_many_at_1 [7, 8]) (dNil))) (dgName 6)) (dIfS (dAnd (dB (dBin aGt (dVar 6) (dC (.int 0)))) (dAnd (dB (dBin aNe (dVar 2) (dLst false (dNil)))) (dAnd (dB (dBin aEq (dBin aIx (dBin aIx (dVar 2) (dNeg (dC (.int 1)))) (dC (.int 1))) (dVar 4))) (dB (dBin aEq (dBin aIx (dBin aIx (dVar 2) (dNeg (dC (.int 1)))) (dC (.int 2))) (dVar 6)))))) (dSetL (dTup (dCons (dBin aIx (dBin aIx (dVar 2) (dNeg (dC (.int 1)))) (dC (.int 0))) (dCons (dVar 5) (dCons (dVar 6) (dNil))))) (dVar 2) (dNeg (dC (.int 1)))) (dIfS (dB (dBin aGt (dVar 6) (dC (.int 0)))) (dDrop (dAppend (dVar 2) (dTup (dCons (dVar 4) (dCons (dVar 5) (dCons (dVar 6) (dNil))))))) (dNext)))
def b_how_many_at : DS := dSeq (dDrop (dCall f_check_spans (dCons (dVar 0) (dNil)))) (dSeq (dPar [1, 2] (dCons (dCall (bSortedK false) (dCons (dBin aOrD (dDc (dIt (dVar 0)) (dgName 3) (dYes) (dBin aIx (dVar 3) (dC (.int 0))) (dC (.bl true)) [3]) (dDc (dIt (dVar 0)) (dgName 3) (dYes) (dBin aIx (dVar 3) (dC (.int 1))) (dC (.bl true)) [3])) (dNil))) (dCons (dLst true (dNil)) (dNil)))) (dSeq (dFor (dZip (dVar 1) (dSl false (dVar 1) (dP (dC (.int 1))) (dNoP))) (dgTup 2 (dgCons (dgName 4) (dgCons (dgName 5) (dgNil)))) l_how_many_at_1) (dRet (dCall bTuple (dCons (dVar 2) (dNil))))))
def f_how_many_at : List D → Store → R D := trim (runB 9 b_how_many_at)
theorem fn_how_many_at (T : Txt g mg) (B : Tbs g mg base) : FnD P w mg base g 7 "how_many_at" 1 f_how_many_at := by
  have F_check_spans := (fn_check_spans (P := P) (w := w) (base := base) T B)
  refine FnD.scope (fn_D T.d_how_many_at sc_how_many_at rfl fun fa cdv A outer s H E O => ?_)
  exact ss_cons (s_expr (pd_call O F_check_spans (by decide) (pa_cons (pd_var 0) (pa_nil)) (len_cons_ (fun _ _ _ _ h => len_nil_ h)))) (ss_cons (s_par (i := 1) (j := 2) O (pa_cons (pd_callB (cSortedK (b := false) O) T.n_sorted PyProof.Rows.boot_sorted (pa_cons (pd_bin oOrD (pd_dc (own := [(("row" : Str), 3)]) O (i_seq O (pd_var 0)) (blkOk_by (N := ["rows", "cuts", "found", "row", "start", "end", "many", "first", "last"]) (sc := defScope s_how_many_at) (by decide +kernel)) (fun _ _ _ _ _ => g_name 3 (O.blk _ _ _ _ _)) (fun _ _ _ _ _ => ts_nil) (fun _ _ _ _ _ => pd_ix (O.blk _ _ _ _ _) (pd_var 3) (pd_int)) (fun _ _ _ _ _ => pd_bl)) (pd_dc (own := [(("row" : Str), 3)]) O (i_seq O (pd_var 0)) (blkOk_by (N := ["rows", "cuts", "found", "row", "start", "end", "many", "first", "last"]) (sc := defScope s_how_many_at) (by decide +kernel)) (fun _ _ _ _ _ => g_name 3 (O.blk _ _ _ _ _)) (fun _ _ _ _ _ => ts_nil) (fun _ _ _ _ _ => pd_ix (O.blk _ _ _ _ _) (pd_var 3) (pd_int)) (fun _ _ _ _ _ => pd_bl))) (pa_nil))) (pa_cons (pd_lst true (pa_nil)) (pa_nil)))) (ss_cons (s_for O (i_zip O T.n_zip (pd_var 1) (pd_slice false O (pd_var 1) (po_some (pd_int)) (po_none))) (g_tup O (gs_cons (g_name 4 O) (gs_cons (g_name 5 O) (gs_nil)))) (ss_cons (s_asg (pd_callB (cLen O) T.n_len PySem.boot_len (pa_cons (pd_lc false (own := [(("first" : Str), 7), (("last" : Str), 8)]) O (i_seq O (pd_var 0)) (blkOk_by (N := ["rows", "cuts", "found", "row", "start", "end", "many", "first", "last"]) (sc := defScope s_how_many_at) (by decide +kernel)) (fun _ _ _ _ _ => g_tup (O.blk _ _ _ _ _) (gs_cons (g_name 7 (O.blk _ _ _ _ _)) (gs_cons (g_name 8 (O.blk _ _ _ _ _)) (gs_nil)))) (fun _ _ _ _ _ => ts_one (pt_w (pw_and (pt_cmp (oLeT (O.blk _ _ _ _ _)) (pd_var 7) (pd_var 4)) (pw_and1 (pt_cmp (oLeT (O.blk _ _ _ _ _)) (pd_var 5) (pd_var 8)))))) (fun _ _ _ _ _ => pd_int)) (pa_nil))) (g_name 6 O)) (ss_one (s_if (pt_w (pw_and (pt_cmp oGt (pd_var 6) (pd_int)) (pw_and (pt_cmp (oNe O) (pd_var 2) (pd_lst false (pa_nil))) (pw_and (pt_cmp (oEq O) (pd_ix O (pd_ix O (pd_var 2) (pd_neg (pd_int))) (pd_int)) (pd_var 4)) (pw_and1 (pt_cmp (oEq O) (pd_ix O (pd_ix O (pd_var 2) (pd_neg (pd_int))) (pd_int)) (pd_var 6))))))) (ss_one (s_setL (pd_tup (pa_cons (pd_ix O (pd_ix O (pd_var 2) (pd_neg (pd_int))) (pd_int)) (pa_cons (pd_var 5) (pa_cons (pd_var 6) (pa_nil))))) (pd_var 2) (pd_neg (pd_int)))) (ss_one (s_if (pt_cmp oGt (pd_var 6) (pd_int)) (ss_one (s_expr (pd_append O (pd_var 2) (pd_tup (pa_cons (pd_var 4) (pa_cons (pd_var 5) (pa_cons (pd_var 6) (pa_nil)))))))) (ss_nil))))))) (ss_one (s_ret (pd_callT (cTuple O) T.n_tuple PyProof.Rows.boot_tuple (pa_cons (pd_var 2) (pa_nil)))))))
/-! in_at_least -/
def y_in_at_least_1 : DE := dTup (dCons (dVar 2) (dCons (dVar 3) (dNil)))
def b_in_at_least : DS := dSeq (dIfS (dB (dBin aLt (dVar 1) (dC (.int 1)))) (dRaise "SpanError") (dNext)) (dRet (dCall f_joined (dCons (dLc false (dIt (dCall f_how_many_at (dCons (dVar 0) (dNil)))) (dgTup 3 (dgCons (dgName 2) (dgCons (dgName 3) (dgCons (dgName 4) (dgNil))))) (dB (dBin aGe (dVar 4) (dVar 1))) y_in_at_least_1 [2, 3, 4]) (dNil))))
def f_in_at_least : List D → Store → R D := runB 5 b_in_at_least
theorem fn_in_at_least (T : Txt g mg) (B : Tbs g mg base) : FnD P w mg base g 8 "in_at_least" 2 f_in_at_least := by
  have F_how_many_at := (fn_how_many_at (P := P) (w := w) (base := base) T B)
  have F_joined := (fn_joined (P := P) (w := w) (base := base) T B)
  refine (fn_D T.d_in_at_least sc_in_at_least rfl fun fa cdv A outer s H E O => ?_)
  exact ss_cons (s_if (pt_cmp (oLt O) (pd_var 1) (pd_int)) (ss_one (s_raise O T.e_SpanError)) (ss_nil)) (ss_one (s_ret (pd_call O F_joined (by decide) (pa_cons (pd_lc false (own := [(("start" : Str), 2), (("end" : Str), 3), (("here" : Str), 4)]) O (i_seq O (pd_call O F_how_many_at (by decide) (pa_cons (pd_var 0) (pa_nil)) (len_cons_ (fun _ _ _ _ h => len_nil_ h)))) (blkOk_by (N := ["rows", "many", "start", "end", "here"]) (sc := defScope s_in_at_least) (by decide +kernel)) (fun _ _ _ _ _ => g_tup (O.blk _ _ _ _ _) (gs_cons (g_name 2 (O.blk _ _ _ _ _)) (gs_cons (g_name 3 (O.blk _ _ _ _ _)) (gs_cons (g_name 4 (O.blk _ _ _ _ _)) (gs_nil))))) (fun _ _ _ _ _ => ts_one (pt_cmp oGe (pd_var 4) (pd_var 1))) (fun _ _ _ _ _ => pd_tup (pa_cons (pd_var 2) (pa_cons (pd_var 3) (pa_nil))))) (pa_nil)) (len_cons_ (fun _ _ _ _ h => len_nil_ h)))))
/-! length_of -/
def y_length_of_1 : DE := dBin aSub (dVar 2) (dVar 1)
def b_length_of : DS := dRet (dSumG (dGx (dIt (dCall f_joined (dCons (dVar 0) (dNil)))) (dgTup 2 (dgCons (dgName 1) (dgCons (dgName 2) (dgNil)))) (dYes) y_length_of_1 [1, 2]))
def f_length_of : List D → Store → R D := runB 3 b_length_of
theorem fn_length_of (T : Txt g mg) (B : Tbs g mg base) : FnD P w mg base g 13 "length_of" 1 f_length_of := by
  have F_joined := (fn_joined (P := P) (w := w) (base := base) T B)
  refine (fn_G T.d_length_of B.t_length_of T.mT_length_of T.hu_length_of sc_length_of rfl fun fa cdv A outer s H E O M => ?_)
  exact ss_one (s_ret (pd_sumG O (pg_gx (own := [(("start" : Str), 1), (("end" : Str), 2)]) (j := 7) O M (i_seq O (pd_call O F_joined (by decide) (pa_cons (pd_var 0) (pa_nil)) (len_cons_ (fun _ _ _ _ h => len_nil_ h)))) (gxS_by (N := ["rows", "start", "end"]) (sc := defScope s_length_of) (by decide +kernel)) (fun A s H L cd fp pn O => g_tup O (gs_cons (g_name 1 O) (gs_cons (g_name 2 O) (gs_nil)))) (fun A s H L cd fp pn O => ts_nil) (fun A s H L cd fp pn O => pd_bin oSub (pd_var 2) (pd_var 1))) (by decide) T.n_sum))
/-! most_apart -/
def y_most_apart_1 : DE := dTup (dCons (dBin aIx (dVar 5) (dC (.int 1))) (dCons (dVar 4) (dNil)))
def l_most_apart_1 : DS := dIfS (dOr (dB (dBin aIsN (dVar 2) (dC .non))) (dB (dBin aGe (dBin aIx (dBin aIx (dVar 0) (dVar 4)) (dC (.int 0))) (dVar 2)))) (dSeq (dDrop (dAppend (dVar 1) (dVar 4))) (dAsg (dVar 3) (dgName 2))) (dNext)
def b_most_apart : DS := dSeq (dDrop (dCall f_check_spans (dCons (dVar 0) (dNil)))) (dSeq (dPar [1, 2] (dCons (dLst true (dNil)) (dCons (dC .non) (dNil)))) (dSeq (dFor (dIt (dSortG false (dGx (dEnumA (dVar 0)) (dgTup 2 (dgCons (dgName 4) (dgCons (dgName 5) (dgNil)))) (dYes) y_most_apart_1 [4, 5]))) (dgTup 2 (dgCons (dgName 3) (dgCons (dgName 4) (dgNil)))) l_most_apart_1) (dRet (dCall bTuple (dCons (dCall (bSortedA false) (dCons (dVar 1) (dNil))) (dNil))))))
def f_most_apart : List D → Store → R D := trim (runB 6 b_most_apart)
theorem fn_most_apart (T : Txt g mg) (B : Tbs g mg base) : FnD P w mg base g 12 "most_apart" 1 f_most_apart := by
  have F_check_spans := (fn_check_spans (P := P) (w := w) (base := base) T B)
  refine FnD.scope (fn_G T.d_most_apart B.t_most_apart T.mT_most_apart T.hu_most_apart sc_most_apart rfl fun fa cdv A outer s H E O M => ?_)
  exact ss_cons (s_expr (pd_call O F_check_spans (by decide) (pa_cons (pd_var 0) (pa_nil)) (len_cons_ (fun _ _ _ _ h => len_nil_ h)))) (ss_cons (s_par (i := 1) (j := 2) O (pa_cons (pd_lst true (pa_nil)) (pa_cons (pd_non) (pa_nil)))) (ss_cons (s_for O (i_seq O (pd_sortG false O (pg_gx (own := [(("place" : Str), 4), (("row" : Str), 5)]) (j := 6) O M (i_enumA O T.n_enumerate (pd_var 0)) (gxS_by (N := ["rows", "found", "last", "end", "place", "row"]) (sc := defScope s_most_apart) (by decide +kernel)) (fun A s H L cd fp pn O => g_tup O (gs_cons (g_name 4 O) (gs_cons (g_name 5 O) (gs_nil)))) (fun A s H L cd fp pn O => ts_nil) (fun A s H L cd fp pn O => pd_tup (pa_cons (pd_ix O (pd_var 5) (pd_int)) (pa_cons (pd_var 4) (pa_nil))))) (by decide) T.n_sorted)) (g_tup O (gs_cons (g_name 3 O) (gs_cons (g_name 4 O) (gs_nil)))) (ss_one (s_if (pt_w (pw_or (pt_cmp oIsN (pd_var 2) (pd_non)) (pw_or1 (pt_cmp oGe (pd_ix O (pd_ix O (pd_var 0) (pd_var 4)) (pd_int)) (pd_var 2))))) (ss_cons (s_expr (pd_append O (pd_var 1) (pd_var 4))) (ss_one (s_asg (pd_var 3) (g_name 2 O)))) (ss_nil)))) (ss_one (s_ret (pd_callT (cTuple O) T.n_tuple PyProof.Rows.boot_tuple (pa_cons (pd_callB (cSortedA (b := false) O) T.n_sorted PyProof.Rows.boot_sorted (pa_cons (pd_var 1) (pa_nil))) (pa_nil)))))))
/-! most_at_once -/
def y_most_at_once_1 : DE := dVar 3
def b_most_at_once : DS := dRet (dMaxDf (dLc false (dIt (dCall f_how_many_at (dCons (dVar 0) (dNil)))) (dgTup 3 (dgCons (dgName 1) (dgCons (dgName 2) (dgCons (dgName 3) (dgNil))))) (dYes) y_most_at_once_1 [1, 2, 3]) (dC (.int 0)))
def f_most_at_once : List D → Store → R D := runB 4 b_most_at_once
theorem fn_most_at_once (T : Txt g mg) (B : Tbs g mg base) : FnD P w mg base g 8 "most_at_once" 1 f_most_at_once := by
  have F_how_many_at := (fn_how_many_at (P := P) (w := w) (base := base) T B)
  refine (fn_D T.d_most_at_once sc_most_at_once rfl fun fa cdv A outer s H E O => ?_)
  exact ss_one (s_ret (pd_maxDf O T.n_max (pd_lc false (own := [(("start" : Str), 1), (("end" : Str), 2), (("many" : Str), 3)]) O (i_seq O (pd_call O F_how_many_at (by decide) (pa_cons (pd_var 0) (pa_nil)) (len_cons_ (fun _ _ _ _ h => len_nil_ h)))) (blkOk_by (N := ["rows", "start", "end", "many"]) (sc := defScope s_most_at_once) (by decide +kernel)) (fun _ _ _ _ _ => g_tup (O.blk _ _ _ _ _) (gs_cons (g_name 1 (O.blk _ _ _ _ _)) (gs_cons (g_name 2 (O.blk _ _ _ _ _)) (gs_cons (g_name 3 (O.blk _ _ _ _ _)) (gs_nil))))) (fun _ _ _ _ _ => ts_nil) (fun _ _ _ _ _ => pd_var 3)) (pd_int)))
/-! moved_by -/
def y_moved_by_1 : DE := dTup (dCons (dBin (aAdd false) (dVar 2) (dVar 1)) (dCons (dBin (aAdd false) (dVar 3) (dVar 1)) (dNil)))
def b_moved_by : DS := dSeq (dDrop (dCall f_check_spans (dCons (dVar 0) (dNil)))) (dRet (dTupG (dGx (dIt (dVar 0)) (dgTup 2 (dgCons (dgName 2) (dgCons (dgName 3) (dgNil)))) (dYes) y_moved_by_1 [2, 3])))
def f_moved_by : List D → Store → R D := runB 4 b_moved_by
theorem fn_moved_by (T : Txt g mg) (B : Tbs g mg base) : FnD P w mg base g 12 "moved_by" 2 f_moved_by := by
  have F_check_spans := (fn_check_spans (P := P) (w := w) (base := base) T B)
  refine (fn_G T.d_moved_by B.t_moved_by T.mT_moved_by T.hu_moved_by sc_moved_by rfl fun fa cdv A outer s H E O M => ?_)
  exact ss_cons (s_expr (pd_call O F_check_spans (by decide) (pa_cons (pd_var 0) (pa_nil)) (len_cons_ (fun _ _ _ _ h => len_nil_ h)))) (ss_one (s_ret (pd_tupG O (pg_gx (own := [(("start" : Str), 2), (("end" : Str), 3)]) (j := 6) O M (i_seq O (pd_var 0)) (gxS_by (N := ["rows", "by", "start", "end"]) (sc := defScope s_moved_by) (by decide +kernel)) (fun A s H L cd fp pn O => g_tup O (gs_cons (g_name 2 O) (gs_cons (g_name 3 O) (gs_nil)))) (fun A s H L cd fp pn O => ts_nil) (fun A s H L cd fp pn O => pd_tup (pa_cons (pd_bin (oAdd O) (pd_var 2) (pd_var 1)) (pa_cons (pd_bin (oAdd O) (pd_var 3) (pd_var 1)) (pa_nil))))) (by decide) T.n_tuple)))
/-! wider -/
def y_wider_1 : DE := dTup (dCons (dBin aSub (dVar 3) (dVar 1)) (dCons (dBin (aAdd false) (dVar 4) (dVar 2)) (dNil)))
def b_wider : DS := dSeq (dDrop (dCall f_check_spans (dCons (dVar 0) (dNil)))) (dRet (dCall f_joined (dCons (dLc false (dIt (dVar 0)) (dgTup 2 (dgCons (dgName 3) (dgCons (dgName 4) (dgNil)))) (dB (dBin aGt (dBin (aAdd false) (dVar 4) (dVar 2)) (dBin aSub (dVar 3) (dVar 1)))) y_wider_1 [3, 4]) (dNil))))
def f_wider : List D → Store → R D := runB 5 b_wider
theorem fn_wider (T : Txt g mg) (B : Tbs g mg base) : FnD P w mg base g 8 "wider" 3 f_wider := by
  have F_check_spans := (fn_check_spans (P := P) (w := w) (base := base) T B)
  have F_joined := (fn_joined (P := P) (w := w) (base := base) T B)
  refine (fn_D T.d_wider sc_wider rfl fun fa cdv A outer s H E O => ?_)
  exact ss_cons (s_expr (pd_call O F_check_spans (by decide) (pa_cons (pd_var 0) (pa_nil)) (len_cons_ (fun _ _ _ _ h => len_nil_ h)))) (ss_one (s_ret (pd_call O F_joined (by decide) (pa_cons (pd_lc false (own := [(("start" : Str), 3), (("end" : Str), 4)]) O (i_seq O (pd_var 0)) (blkOk_by (N := ["rows", "ahead", "behind", "start", "end"]) (sc := defScope s_wider) (by decide +kernel)) (fun _ _ _ _ _ => g_tup (O.blk _ _ _ _ _) (gs_cons (g_name 3 (O.blk _ _ _ _ _)) (gs_cons (g_name 4 (O.blk _ _ _ _ _)) (gs_nil)))) (fun _ _ _ _ _ => ts_one (pt_cmp oGt (pd_bin (oAdd (O.blk _ _ _ _ _)) (pd_var 4) (pd_var 2)) (pd_bin oSub (pd_var 3) (pd_var 1)))) (fun _ _ _ _ _ => pd_tup (pa_cons (pd_bin oSub (pd_var 3) (pd_var 1)) (pa_cons (pd_bin (oAdd (O.blk _ _ _ _ _)) (pd_var 4) (pd_var 2)) (pa_nil))))) (pa_nil)) (len_cons_ (fun _ _ _ _ h => len_nil_ h)))))
/-- what the lambdas of the text do -/
def tab (n : Nat) (st : Store) : R D := match n with
  | 0 => (dCall f_check_spans (dCons (dTup (dCons (dTup (dCons (dC (.int 2)) (dCons (dC (.int 2)) (dNil)))) (dNil))) (dNil))) [] st
  | 1 => (dCall f_joined (dCons (dTup (dCons (dTup (dCons (dC (.int 3)) (dCons (dC (.int 2)) (dNil)))) (dNil))) (dNil))) [] st
  | 2 => (dCall f_common (dCons (dTup (dCons (dTup (dCons (dC (.int 2)) (dCons (dC (.int 2)) (dNil)))) (dNil))) (dCons (dTup (dNil)) (dNil)))) [] st
  | 3 => (dCall f_without (dCons (dTup (dNil)) (dCons (dTup (dCons (dTup (dCons (dC (.int 2)) (dCons (dC (.int 2)) (dNil)))) (dNil))) (dNil)))) [] st
  | 4 => (dCall f_either (dCons (dTup (dCons (dTup (dCons (dC (.int 2)) (dCons (dC (.int 2)) (dNil)))) (dNil))) (dCons (dTup (dNil)) (dNil)))) [] st
  | 5 => (dCall f_gaps_in (dCons (dTup (dNil)) (dCons (dC (.int 5)) (dCons (dC (.int 5)) (dNil))))) [] st
  | 6 => (dCall f_gaps_in (dCons (dTup (dCons (dTup (dCons (dC (.int 2)) (dCons (dC (.int 2)) (dNil)))) (dNil))) (dCons (dC (.int 1)) (dCons (dC (.int 5)) (dNil))))) [] st
  | 7 => (dCall f_length_of (dCons (dTup (dCons (dTup (dCons (dC (.int 2)) (dCons (dC (.int 2)) (dNil)))) (dNil))) (dNil))) [] st
  | 8 => (dCall f_holds_at (dCons (dTup (dCons (dTup (dCons (dC (.int 2)) (dCons (dC (.int 2)) (dNil)))) (dNil))) (dCons (dC (.int 1)) (dNil)))) [] st
  | 9 => (dCall f_how_lies (dCons (dTup (dCons (dC (.int 1)) (dCons (dC (.int 1)) (dNil)))) (dCons (dTup (dCons (dC (.int 1)) (dCons (dC (.int 2)) (dNil)))) (dNil)))) [] st
  | 10 => (dCall f_how_many_at (dCons (dTup (dCons (dTup (dCons (dC (.int 2)) (dCons (dC (.int 2)) (dNil)))) (dNil))) (dNil))) [] st
  | 11 => (dCall f_most_at_once (dCons (dTup (dCons (dTup (dCons (dC (.int 2)) (dCons (dC (.int 2)) (dNil)))) (dNil))) (dNil))) [] st
  | 12 => (dCall f_in_at_least (dCons (dTup (dNil)) (dCons (dC (.int 0)) (dNil)))) [] st
  | 13 => (dCall f_first_fit (dCons (dTup (dNil)) (dCons (dC (.int 0)) (dCons (dC (.int 1)) (dCons (dC (.int 1)) (dNil)))))) [] st
  | 14 => (dCall f_first_fit (dCons (dTup (dNil)) (dCons (dC (.int 1)) (dCons (dC (.int 0)) (dCons (dC (.int 1)) (dNil)))))) [] st
  | 15 => (dCall f_moved_by (dCons (dTup (dCons (dTup (dCons (dC (.int 2)) (dCons (dC (.int 2)) (dNil)))) (dNil))) (dCons (dC (.int 1)) (dNil)))) [] st
  | 16 => (dCall f_wider (dCons (dTup (dCons (dTup (dCons (dC (.int 2)) (dCons (dC (.int 2)) (dNil)))) (dNil))) (dCons (dC (.int 1)) (dCons (dC (.int 1)) (dNil))))) [] st
  | 17 => (dCall f_fewest_points (dCons (dTup (dCons (dTup (dCons (dC (.int 2)) (dCons (dC (.int 2)) (dNil)))) (dNil))) (dNil))) [] st
  | 18 => (dCall f_most_apart (dCons (dTup (dCons (dTup (dCons (dC (.int 2)) (dCons (dC (.int 2)) (dNil)))) (dNil))) (dNil))) [] st
  | _ => .bad
theorem lok_0 (T : Txt g mg) (B : Tbs g mg base) : LamOk lam_0 ∧ ∀ (A : Around) (outer : List PySem.Env) (s : Shared) (H : Hp) (E : XK) (f c : Addr), Ok (lamCx0 P w g.K mg base lam_0 A outer s H E f c) g (WB E) 13 → PD (lamCx0 P w g.K mg base lam_0 A outer s H E f c) g (WB E) lam_0.body (fun _ st => tab 0 st) := by
  have F_check_spans := (fn_check_spans (P := P) (w := w) (base := base) T B)
  refine ⟨lamOk_by (by decide +kernel) (by intros; rfl), fun A outer s H E f c O => ?_⟩
  exact (pd_call O F_check_spans (by decide) (pa_cons (pd_tup (pa_cons (pd_tup (pa_cons (pd_int) (pa_cons (pd_int) (pa_nil)))) (pa_nil))) (pa_nil)) (len_cons_ (fun _ _ _ _ h => len_nil_ h)) : PD _ g (WB E) lam_0.body (dCall f_check_spans (dCons (dTup (dCons (dTup (dCons (dC (.int 2)) (dCons (dC (.int 2)) (dNil)))) (dNil))) (dNil))))
theorem lok_1 (T : Txt g mg) (B : Tbs g mg base) : LamOk lam_1 ∧ ∀ (A : Around) (outer : List PySem.Env) (s : Shared) (H : Hp) (E : XK) (f c : Addr), Ok (lamCx0 P w g.K mg base lam_1 A outer s H E f c) g (WB E) 13 → PD (lamCx0 P w g.K mg base lam_1 A outer s H E f c) g (WB E) lam_1.body (fun _ st => tab 1 st) := by
  have F_joined := (fn_joined (P := P) (w := w) (base := base) T B)
  refine ⟨lamOk_by (by decide +kernel) (by intros; rfl), fun A outer s H E f c O => ?_⟩
  exact (pd_call O F_joined (by decide) (pa_cons (pd_tup (pa_cons (pd_tup (pa_cons (pd_int) (pa_cons (pd_int) (pa_nil)))) (pa_nil))) (pa_nil)) (len_cons_ (fun _ _ _ _ h => len_nil_ h)) : PD _ g (WB E) lam_1.body (dCall f_joined (dCons (dTup (dCons (dTup (dCons (dC (.int 3)) (dCons (dC (.int 2)) (dNil)))) (dNil))) (dNil))))
theorem lok_2 (T : Txt g mg) (B : Tbs g mg base) : LamOk lam_2 ∧ ∀ (A : Around) (outer : List PySem.Env) (s : Shared) (H : Hp) (E : XK) (f c : Addr), Ok (lamCx0 P w g.K mg base lam_2 A outer s H E f c) g (WB E) 13 → PD (lamCx0 P w g.K mg base lam_2 A outer s H E f c) g (WB E) lam_2.body (fun _ st => tab 2 st) := by
  have F_common := (fn_common (P := P) (w := w) (base := base) T B)
  refine ⟨lamOk_by (by decide +kernel) (by intros; rfl), fun A outer s H E f c O => ?_⟩
  exact (pd_call O F_common (by decide) (pa_cons (pd_tup (pa_cons (pd_tup (pa_cons (pd_int) (pa_cons (pd_int) (pa_nil)))) (pa_nil))) (pa_cons (pd_tup (pa_nil)) (pa_nil))) (len_cons_ (len_cons_ (fun _ _ _ _ h => len_nil_ h))) : PD _ g (WB E) lam_2.body (dCall f_common (dCons (dTup (dCons (dTup (dCons (dC (.int 2)) (dCons (dC (.int 2)) (dNil)))) (dNil))) (dCons (dTup (dNil)) (dNil)))))
theorem lok_3 (T : Txt g mg) (B : Tbs g mg base) : LamOk lam_3 ∧ ∀ (A : Around) (outer : List PySem.Env) (s : Shared) (H : Hp) (E : XK) (f c : Addr), Ok (lamCx0 P w g.K mg base lam_3 A outer s H E f c) g (WB E) 13 → PD (lamCx0 P w g.K mg base lam_3 A outer s H E f c) g (WB E) lam_3.body (fun _ st => tab 3 st) := by
  have F_without := (fn_without (P := P) (w := w) (base := base) T B)
  refine ⟨lamOk_by (by decide +kernel) (by intros; rfl), fun A outer s H E f c O => ?_⟩
  exact (pd_call O F_without (by decide) (pa_cons (pd_tup (pa_nil)) (pa_cons (pd_tup (pa_cons (pd_tup (pa_cons (pd_int) (pa_cons (pd_int) (pa_nil)))) (pa_nil))) (pa_nil))) (len_cons_ (len_cons_ (fun _ _ _ _ h => len_nil_ h))) : PD _ g (WB E) lam_3.body (dCall f_without (dCons (dTup (dNil)) (dCons (dTup (dCons (dTup (dCons (dC (.int 2)) (dCons (dC (.int 2)) (dNil)))) (dNil))) (dNil)))))
theorem lok_4 (T : Txt g mg) (B : Tbs g mg base) : LamOk lam_4 ∧ ∀ (A : Around) (outer : List PySem.Env) (s : Shared) (H : Hp) (E : XK) (f c : Addr), Ok (lamCx0 P w g.K mg base lam_4 A outer s H E f c) g (WB E) 13 → PD (lamCx0 P w g.K mg base lam_4 A outer s H E f c) g (WB E) lam_4.body (fun _ st => tab 4 st) := by
  have F_either := (fn_either (P := P) (w := w) (base := base) T B)
  refine ⟨lamOk_by (by decide +kernel) (by intros; rfl), fun A outer s H E f c O => ?_⟩
  exact (pd_call O F_either (by decide) (pa_cons (pd_tup (pa_cons (pd_tup (pa_cons (pd_int) (pa_cons (pd_int) (pa_nil)))) (pa_nil))) (pa_cons (pd_tup (pa_nil)) (pa_nil))) (len_cons_ (len_cons_ (fun _ _ _ _ h => len_nil_ h))) : PD _ g (WB E) lam_4.body (dCall f_either (dCons (dTup (dCons (dTup (dCons (dC (.int 2)) (dCons (dC (.int 2)) (dNil)))) (dNil))) (dCons (dTup (dNil)) (dNil)))))
theorem lok_5 (T : Txt g mg) (B : Tbs g mg base) : LamOk lam_5 ∧ ∀ (A : Around) (outer : List PySem.Env) (s : Shared) (H : Hp) (E : XK) (f c : Addr), Ok (lamCx0 P w g.K mg base lam_5 A outer s H E f c) g (WB E) 13 → PD (lamCx0 P w g.K mg base lam_5 A outer s H E f c) g (WB E) lam_5.body (fun _ st => tab 5 st) := by
  have F_gaps_in := (fn_gaps_in (P := P) (w := w) (base := base) T B)
  refine ⟨lamOk_by (by decide +kernel) (by intros; rfl), fun A outer s H E f c O => ?_⟩
  exact (pd_call O F_gaps_in (by decide) (pa_cons (pd_tup (pa_nil)) (pa_cons (pd_int) (pa_cons (pd_int) (pa_nil)))) (len_cons_ (len_cons_ (len_cons_ (fun _ _ _ _ h => len_nil_ h)))) : PD _ g (WB E) lam_5.body (dCall f_gaps_in (dCons (dTup (dNil)) (dCons (dC (.int 5)) (dCons (dC (.int 5)) (dNil))))))
theorem lok_6 (T : Txt g mg) (B : Tbs g mg base) : LamOk lam_6 ∧ ∀ (A : Around) (outer : List PySem.Env) (s : Shared) (H : Hp) (E : XK) (f c : Addr), Ok (lamCx0 P w g.K mg base lam_6 A outer s H E f c) g (WB E) 13 → PD (lamCx0 P w g.K mg base lam_6 A outer s H E f c) g (WB E) lam_6.body (fun _ st => tab 6 st) := by
  have F_gaps_in := (fn_gaps_in (P := P) (w := w) (base := base) T B)
  refine ⟨lamOk_by (by decide +kernel) (by intros; rfl), fun A outer s H E f c O => ?_⟩
  exact (pd_call O F_gaps_in (by decide) (pa_cons (pd_tup (pa_cons (pd_tup (pa_cons (pd_int) (pa_cons (pd_int) (pa_nil)))) (pa_nil))) (pa_cons (pd_int) (pa_cons (pd_int) (pa_nil)))) (len_cons_ (len_cons_ (len_cons_ (fun _ _ _ _ h => len_nil_ h)))) : PD _ g (WB E) lam_6.body (dCall f_gaps_in (dCons (dTup (dCons (dTup (dCons (dC (.int 2)) (dCons (dC (.int 2)) (dNil)))) (dNil))) (dCons (dC (.int 1)) (dCons (dC (.int 5)) (dNil))))))
theorem lok_7 (T : Txt g mg) (B : Tbs g mg base) : LamOk lam_7 ∧ ∀ (A : Around) (outer : List PySem.Env) (s : Shared) (H : Hp) (E : XK) (f c : Addr), Ok (lamCx0 P w g.K mg base lam_7 A outer s H E f c) g (WB E) 13 → PD (lamCx0 P w g.K mg base lam_7 A outer s H E f c) g (WB E) lam_7.body (fun _ st => tab 7 st) := by
  have F_length_of := (fn_length_of (P := P) (w := w) (base := base) T B)
  refine ⟨lamOk_by (by decide +kernel) (by intros; rfl), fun A outer s H E f c O => ?_⟩
  exact (pd_call O F_length_of (by decide) (pa_cons (pd_tup (pa_cons (pd_tup (pa_cons (pd_int) (pa_cons (pd_int) (pa_nil)))) (pa_nil))) (pa_nil)) (len_cons_ (fun _ _ _ _ h => len_nil_ h)) : PD _ g (WB E) lam_7.body (dCall f_length_of (dCons (dTup (dCons (dTup (dCons (dC (.int 2)) (dCons (dC (.int 2)) (dNil)))) (dNil))) (dNil))))
theorem lok_8 (T : Txt g mg) (B : Tbs g mg base) : LamOk lam_8 ∧ ∀ (A : Around) (outer : List PySem.Env) (s : Shared) (H : Hp) (E : XK) (f c : Addr), Ok (lamCx0 P w g.K mg base lam_8 A outer s H E f c) g (WB E) 13 → PD (lamCx0 P w g.K mg base lam_8 A outer s H E f c) g (WB E) lam_8.body (fun _ st => tab 8 st) := by
  have F_holds_at := (fn_holds_at (P := P) (w := w) (base := base) T B)
  refine ⟨lamOk_by (by decide +kernel) (by intros; rfl), fun A outer s H E f c O => ?_⟩
  exact (pd_call O F_holds_at (by decide) (pa_cons (pd_tup (pa_cons (pd_tup (pa_cons (pd_int) (pa_cons (pd_int) (pa_nil)))) (pa_nil))) (pa_cons (pd_int) (pa_nil))) (len_cons_ (len_cons_ (fun _ _ _ _ h => len_nil_ h))) : PD _ g (WB E) lam_8.body (dCall f_holds_at (dCons (dTup (dCons (dTup (dCons (dC (.int 2)) (dCons (dC (.int 2)) (dNil)))) (dNil))) (dCons (dC (.int 1)) (dNil)))))
theorem lok_9 (T : Txt g mg) (B : Tbs g mg base) : LamOk lam_9 ∧ ∀ (A : Around) (outer : List PySem.Env) (s : Shared) (H : Hp) (E : XK) (f c : Addr), Ok (lamCx0 P w g.K mg base lam_9 A outer s H E f c) g (WB E) 13 → PD (lamCx0 P w g.K mg base lam_9 A outer s H E f c) g (WB E) lam_9.body (fun _ st => tab 9 st) := by
  have F_how_lies := (fn_how_lies (P := P) (w := w) (base := base) T B)
  refine ⟨lamOk_by (by decide +kernel) (by intros; rfl), fun A outer s H E f c O => ?_⟩
  exact (pd_call O F_how_lies (by decide) (pa_cons (pd_tup (pa_cons (pd_int) (pa_cons (pd_int) (pa_nil)))) (pa_cons (pd_tup (pa_cons (pd_int) (pa_cons (pd_int) (pa_nil)))) (pa_nil))) (len_cons_ (len_cons_ (fun _ _ _ _ h => len_nil_ h))) : PD _ g (WB E) lam_9.body (dCall f_how_lies (dCons (dTup (dCons (dC (.int 1)) (dCons (dC (.int 1)) (dNil)))) (dCons (dTup (dCons (dC (.int 1)) (dCons (dC (.int 2)) (dNil)))) (dNil)))))
theorem lok_10 (T : Txt g mg) (B : Tbs g mg base) : LamOk lam_10 ∧ ∀ (A : Around) (outer : List PySem.Env) (s : Shared) (H : Hp) (E : XK) (f c : Addr), Ok (lamCx0 P w g.K mg base lam_10 A outer s H E f c) g (WB E) 13 → PD (lamCx0 P w g.K mg base lam_10 A outer s H E f c) g (WB E) lam_10.body (fun _ st => tab 10 st) := by
  have F_how_many_at := (fn_how_many_at (P := P) (w := w) (base := base) T B)
  refine ⟨lamOk_by (by decide +kernel) (by intros; rfl), fun A outer s H E f c O => ?_⟩
  exact (pd_call O F_how_many_at (by decide) (pa_cons (pd_tup (pa_cons (pd_tup (pa_cons (pd_int) (pa_cons (pd_int) (pa_nil)))) (pa_nil))) (pa_nil)) (len_cons_ (fun _ _ _ _ h => len_nil_ h)) : PD _ g (WB E) lam_10.body (dCall f_how_many_at (dCons (dTup (dCons (dTup (dCons (dC (.int 2)) (dCons (dC (.int 2)) (dNil)))) (dNil))) (dNil))))
theorem lok_11 (T : Txt g mg) (B : Tbs g mg base) : LamOk lam_11 ∧ ∀ (A : Around) (outer : List PySem.Env) (s : Shared) (H : Hp) (E : XK) (f c : Addr), Ok (lamCx0 P w g.K mg base lam_11 A outer s H E f c) g (WB E) 13 → PD (lamCx0 P w g.K mg base lam_11 A outer s H E f c) g (WB E) lam_11.body (fun _ st => tab 11 st) := by
  have F_most_at_once := (fn_most_at_once (P := P) (w := w) (base := base) T B)
  refine ⟨lamOk_by (by decide +kernel) (by intros; rfl), fun A outer s H E f c O => ?_⟩
  exact (pd_call O F_most_at_once (by decide) (pa_cons (pd_tup (pa_cons (pd_tup (pa_cons (pd_int) (pa_cons (pd_int) (pa_nil)))) (pa_nil))) (pa_nil)) (len_cons_ (fun _ _ _ _ h => len_nil_ h)) : PD _ g (WB E) lam_11.body (dCall f_most_at_once (dCons (dTup (dCons (dTup (dCons (dC (.int 2)) (dCons (dC (.int 2)) (dNil)))) (dNil))) (dNil))))
theorem lok_12 (T : Txt g mg) (B : Tbs g mg base) : LamOk lam_12 ∧ ∀ (A : Around) (outer : List PySem.Env) (s : Shared) (H : Hp) (E : XK) (f c : Addr), Ok (lamCx0 P w g.K mg base lam_12 A outer s H E f c) g (WB E) 13 → PD (lamCx0 P w g.K mg base lam_12 A outer s H E f c) g (WB E) lam_12.body (fun _ st => tab 12 st) := by
  have F_in_at_least := (fn_in_at_least (P := P) (w := w) (base := base) T B)
  refine ⟨lamOk_by (by decide +kernel) (by intros; rfl), fun A outer s H E f c O => ?_⟩
  exact (pd_call O F_in_at_least (by decide) (pa_cons (pd_tup (pa_nil)) (pa_cons (pd_int) (pa_nil))) (len_cons_ (len_cons_ (fun _ _ _ _ h => len_nil_ h))) : PD _ g (WB E) lam_12.body (dCall f_in_at_least (dCons (dTup (dNil)) (dCons (dC (.int 0)) (dNil)))))
theorem lok_13 (T : Txt g mg) (B : Tbs g mg base) : LamOk lam_13 ∧ ∀ (A : Around) (outer : List PySem.Env) (s : Shared) (H : Hp) (E : XK) (f c : Addr), Ok (lamCx0 P w g.K mg base lam_13 A outer s H E f c) g (WB E) 13 → PD (lamCx0 P w g.K mg base lam_13 A outer s H E f c) g (WB E) lam_13.body (fun _ st => tab 13 st) := by
  have F_first_fit := (fn_first_fit (P := P) (w := w) (base := base) T B)
  refine ⟨lamOk_by (by decide +kernel) (by intros; rfl), fun A outer s H E f c O => ?_⟩
  exact (pd_call O F_first_fit (by decide) (pa_cons (pd_tup (pa_nil)) (pa_cons (pd_int) (pa_cons (pd_int) (pa_cons (pd_int) (pa_nil))))) (len_cons_ (len_cons_ (len_cons_ (len_cons_ (fun _ _ _ _ h => len_nil_ h))))) : PD _ g (WB E) lam_13.body (dCall f_first_fit (dCons (dTup (dNil)) (dCons (dC (.int 0)) (dCons (dC (.int 1)) (dCons (dC (.int 1)) (dNil)))))))
theorem lok_14 (T : Txt g mg) (B : Tbs g mg base) : LamOk lam_14 ∧ ∀ (A : Around) (outer : List PySem.Env) (s : Shared) (H : Hp) (E : XK) (f c : Addr), Ok (lamCx0 P w g.K mg base lam_14 A outer s H E f c) g (WB E) 13 → PD (lamCx0 P w g.K mg base lam_14 A outer s H E f c) g (WB E) lam_14.body (fun _ st => tab 14 st) := by
  have F_first_fit := (fn_first_fit (P := P) (w := w) (base := base) T B)
  refine ⟨lamOk_by (by decide +kernel) (by intros; rfl), fun A outer s H E f c O => ?_⟩
  exact (pd_call O F_first_fit (by decide) (pa_cons (pd_tup (pa_nil)) (pa_cons (pd_int) (pa_cons (pd_int) (pa_cons (pd_int) (pa_nil))))) (len_cons_ (len_cons_ (len_cons_ (len_cons_ (fun _ _ _ _ h => len_nil_ h))))) : PD _ g (WB E) lam_14.body (dCall f_first_fit (dCons (dTup (dNil)) (dCons (dC (.int 1)) (dCons (dC (.int 0)) (dCons (dC (.int 1)) (dNil)))))))
theorem lok_15 (T : Txt g mg) (B : Tbs g mg base) : LamOk lam_15 ∧ ∀ (A : Around) (outer : List PySem.Env) (s : Shared) (H : Hp) (E : XK) (f c : Addr), Ok (lamCx0 P w g.K mg base lam_15 A outer s H E f c) g (WB E) 13 → PD (lamCx0 P w g.K mg base lam_15 A outer s H E f c) g (WB E) lam_15.body (fun _ st => tab 15 st) := by
  have F_moved_by := (fn_moved_by (P := P) (w := w) (base := base) T B)
  refine ⟨lamOk_by (by decide +kernel) (by intros; rfl), fun A outer s H E f c O => ?_⟩
  exact (pd_call O F_moved_by (by decide) (pa_cons (pd_tup (pa_cons (pd_tup (pa_cons (pd_int) (pa_cons (pd_int) (pa_nil)))) (pa_nil))) (pa_cons (pd_int) (pa_nil))) (len_cons_ (len_cons_ (fun _ _ _ _ h => len_nil_ h))) : PD _ g (WB E) lam_15.body (dCall f_moved_by (dCons (dTup (dCons (dTup (dCons (dC (.int 2)) (dCons (dC (.int 2)) (dNil)))) (dNil))) (dCons (dC (.int 1)) (dNil)))))
theorem lok_16 (T : Txt g mg) (B : Tbs g mg base) : LamOk lam_16 ∧ ∀ (A : Around) (outer : List PySem.Env) (s : Shared) (H : Hp) (E : XK) (f c : Addr), Ok (lamCx0 P w g.K mg base lam_16 A outer s H E f c) g (WB E) 13 → PD (lamCx0 P w g.K mg base lam_16 A outer s H E f c) g (WB E) lam_16.body (fun _ st => tab 16 st) := by
  have F_wider := (fn_wider (P := P) (w := w) (base := base) T B)
  refine ⟨lamOk_by (by decide +kernel) (by intros; rfl), fun A outer s H E f c O => ?_⟩
  exact (pd_call O F_wider (by decide) (pa_cons (pd_tup (pa_cons (pd_tup (pa_cons (pd_int) (pa_cons (pd_int) (pa_nil)))) (pa_nil))) (pa_cons (pd_int) (pa_cons (pd_int) (pa_nil)))) (len_cons_ (len_cons_ (len_cons_ (fun _ _ _ _ h => len_nil_ h)))) : PD _ g (WB E) lam_16.body (dCall f_wider (dCons (dTup (dCons (dTup (dCons (dC (.int 2)) (dCons (dC (.int 2)) (dNil)))) (dNil))) (dCons (dC (.int 1)) (dCons (dC (.int 1)) (dNil))))))
theorem lok_17 (T : Txt g mg) (B : Tbs g mg base) : LamOk lam_17 ∧ ∀ (A : Around) (outer : List PySem.Env) (s : Shared) (H : Hp) (E : XK) (f c : Addr), Ok (lamCx0 P w g.K mg base lam_17 A outer s H E f c) g (WB E) 13 → PD (lamCx0 P w g.K mg base lam_17 A outer s H E f c) g (WB E) lam_17.body (fun _ st => tab 17 st) := by
  have F_fewest_points := (fn_fewest_points (P := P) (w := w) (base := base) T B)
  refine ⟨lamOk_by (by decide +kernel) (by intros; rfl), fun A outer s H E f c O => ?_⟩
  exact (pd_call O F_fewest_points (by decide) (pa_cons (pd_tup (pa_cons (pd_tup (pa_cons (pd_int) (pa_cons (pd_int) (pa_nil)))) (pa_nil))) (pa_nil)) (len_cons_ (fun _ _ _ _ h => len_nil_ h)) : PD _ g (WB E) lam_17.body (dCall f_fewest_points (dCons (dTup (dCons (dTup (dCons (dC (.int 2)) (dCons (dC (.int 2)) (dNil)))) (dNil))) (dNil))))
theorem lok_18 (T : Txt g mg) (B : Tbs g mg base) : LamOk lam_18 ∧ ∀ (A : Around) (outer : List PySem.Env) (s : Shared) (H : Hp) (E : XK) (f c : Addr), Ok (lamCx0 P w g.K mg base lam_18 A outer s H E f c) g (WB E) 13 → PD (lamCx0 P w g.K mg base lam_18 A outer s H E f c) g (WB E) lam_18.body (fun _ st => tab 18 st) := by
  have F_most_apart := (fn_most_apart (P := P) (w := w) (base := base) T B)
  refine ⟨lamOk_by (by decide +kernel) (by intros; rfl), fun A outer s H E f c O => ?_⟩
  exact (pd_call O F_most_apart (by decide) (pa_cons (pd_tup (pa_cons (pd_tup (pa_cons (pd_int) (pa_cons (pd_int) (pa_nil)))) (pa_nil))) (pa_nil)) (len_cons_ (fun _ _ _ _ h => len_nil_ h)) : PD _ g (WB E) lam_18.body (dCall f_most_apart (dCons (dTup (dCons (dTup (dCons (dC (.int 2)) (dCons (dC (.int 2)) (dNil)))) (dNil))) (dNil))))
theorem lams_ok (T : Txt g mg) (B : Tbs g mg base) : LamsOk P w mg base g 13 tab := by
  intro n l h
  by_cases h0 : n = 0
  · subst h0
    rw [T.l_0] at h
    cases h
    exact lok_0 T B
  by_cases h1 : n = 1
  · subst h1
    rw [T.l_1] at h
    cases h
    exact lok_1 T B
  by_cases h2 : n = 2
  · subst h2
    rw [T.l_2] at h
    cases h
    exact lok_2 T B
  by_cases h3 : n = 3
  · subst h3
    rw [T.l_3] at h
    cases h
    exact lok_3 T B
  by_cases h4 : n = 4
  · subst h4
    rw [T.l_4] at h
    cases h
    exact lok_4 T B
  by_cases h5 : n = 5
  · subst h5
    rw [T.l_5] at h
    cases h
    exact lok_5 T B
  by_cases h6 : n = 6
  · subst h6
    rw [T.l_6] at h
    cases h
    exact lok_6 T B
  by_cases h7 : n = 7
  · subst h7
    rw [T.l_7] at h
    cases h
    exact lok_7 T B
  by_cases h8 : n = 8
  · subst h8
    rw [T.l_8] at h
    cases h
    exact lok_8 T B
  by_cases h9 : n = 9
  · subst h9
    rw [T.l_9] at h
    cases h
    exact lok_9 T B
  by_cases h10 : n = 10
  · subst h10
    rw [T.l_10] at h
    cases h
    exact lok_10 T B
  by_cases h11 : n = 11
  · subst h11
    rw [T.l_11] at h
    cases h
    exact lok_11 T B
  by_cases h12 : n = 12
  · subst h12
    rw [T.l_12] at h
    cases h
    exact lok_12 T B
  by_cases h13 : n = 13
  · subst h13
    rw [T.l_13] at h
    cases h
    exact lok_13 T B
  by_cases h14 : n = 14
  · subst h14
    rw [T.l_14] at h
    cases h
    exact lok_14 T B
  by_cases h15 : n = 15
  · subst h15
    rw [T.l_15] at h
    cases h
    exact lok_15 T B
  by_cases h16 : n = 16
  · subst h16
    rw [T.l_16] at h
    cases h
    exact lok_16 T B
  by_cases h17 : n = 17
  · subst h17
    rw [T.l_17] at h
    cases h
    exact lok_17 T B
  by_cases h18 : n = 18
  · subst h18
    rw [T.l_18] at h
    cases h
    exact lok_18 T B
  rw [T.lam_no n (by omega)] at h
  cases h
/-! _law_told -/
def b__law_told : DS := dTry [("SpanError", true)] (dRet (dCallLam tab 0)) (dRet (dC (.str "SpanError")))
def f__law_told : List D → Store → R D := runB 1 b__law_told
theorem fn__law_told (T : Txt g mg) (B : Tbs g mg base) : FnD P w mg base g 15 "_law_told" 1 f__law_told := by
  have FL := (lams_ok (P := P) (w := w) (base := base) T B)
  refine (fn_D T.d__law_told sc__law_told rfl fun fa cdv A outer s H E O => ?_)
  exact ss_one (s_try (tb := [("SpanError", true)]) O T.e_SpanError T.catch_SpanError rfl rfl (fun W pn xe O => ss_one (s_ret (pd_callLam 0 O FL (by decide)))) (fun a oe pn => ss_one (s_ret (pd_str))))
/-! _law_plain -/
def y__law_plain_1 : DE := dC (.int 1)
def b__law_plain : DS := dSeq (dAsg (dLst false (dCons (dLam 0) (dCons (dLam 1) (dCons (dLam 2) (dCons (dLam 3) (dCons (dLam 4) (dCons (dLam 5) (dCons (dLam 6) (dCons (dLam 7) (dCons (dLam 8) (dCons (dLam 9) (dCons (dLam 10) (dCons (dLam 11) (dCons (dLam 12) (dCons (dLam 13) (dCons (dLam 14) (dCons (dLam 15) (dCons (dLam 16) (dCons (dLam 17) (dCons (dLam 18) (dNil))))))))))))))))))))) (dgName 0)) (dSeq (dIfS (dB (dBin aNe (dLc false (dIt (dVar 0)) (dgName 1) (dB (dBin aNe (dCall f__law_told (dCons (dVar 1) (dNil))) (dC (.str "SpanError")))) y__law_plain_1 [1]) (dLst false (dNil)))) (dRet (dC (.bl false))) (dNext)) (dSeq (dIfS (dB (dBin aNe (dC c_WAYS_TO_LIE) (dTup (dCons (dC (.str "ahead")) (dCons (dC (.str "up to")) (dCons (dC (.str "over")) (dCons (dC (.str "begins")) (dCons (dC (.str "within")) (dCons (dC (.str "ends")) (dCons (dC (.str "same")) (dNil))))))))))) (dRet (dC (.bl false))) (dNext)) (dSeq (dIfS (dB (dBin aNe (dCall f_joined (dCons (dTup (dCons (dTup (dCons (dC (.int 5)) (dCons (dC (.int 9)) (dNil)))) (dCons (dTup (dCons (dC (.int 1)) (dCons (dC (.int 3)) (dNil)))) (dCons (dTup (dCons (dC (.int 3)) (dCons (dC (.int 4)) (dNil)))) (dNil))))) (dNil))) (dTup (dCons (dTup (dCons (dC (.int 1)) (dCons (dC (.int 4)) (dNil)))) (dCons (dTup (dCons (dC (.int 5)) (dCons (dC (.int 9)) (dNil)))) (dNil)))))) (dRet (dC (.bl false))) (dNext)) (dSeq (dIfS (dB (dBin aNe (dCall f_without (dCons (dTup (dCons (dTup (dCons (dC (.int 1)) (dCons (dC (.int 9)) (dNil)))) (dNil))) (dCons (dTup (dCons (dTup (dCons (dC (.int 3)) (dCons (dC (.int 4)) (dNil)))) (dCons (dTup (dCons (dC (.int 6)) (dCons (dC (.int 7)) (dNil)))) (dNil)))) (dNil)))) (dTup (dCons (dTup (dCons (dC (.int 1)) (dCons (dC (.int 3)) (dNil)))) (dCons (dTup (dCons (dC (.int 4)) (dCons (dC (.int 6)) (dNil)))) (dCons (dTup (dCons (dC (.int 7)) (dCons (dC (.int 9)) (dNil)))) (dNil))))))) (dRet (dC (.bl false))) (dNext)) (dSeq (dIfS (dNot (dAnd (dB (dBin aEq (dCall f_how_lies (dCons (dTup (dCons (dC (.int 1)) (dCons (dC (.int 3)) (dNil)))) (dCons (dTup (dCons (dC (.int 3)) (dCons (dC (.int 5)) (dNil)))) (dNil)))) (dTup (dCons (dC (.str "up to")) (dCons (dC (.bl false)) (dNil)))))) (dB (dBin aEq (dCall f_how_lies (dCons (dTup (dCons (dC (.int 2)) (dCons (dC (.int 6)) (dNil)))) (dCons (dTup (dCons (dC (.int 1)) (dCons (dC (.int 4)) (dNil)))) (dNil)))) (dTup (dCons (dC (.str "over")) (dCons (dC (.bl true)) (dNil)))))))) (dRet (dC (.bl false))) (dNext)) (dSeq (dIfS (dB (dBin aNe (dCall f_how_many_at (dCons (dTup (dCons (dTup (dCons (dC (.int 1)) (dCons (dC (.int 5)) (dNil)))) (dCons (dTup (dCons (dC (.int 3)) (dCons (dC (.int 9)) (dNil)))) (dNil)))) (dNil))) (dTup (dCons (dTup (dCons (dC (.int 1)) (dCons (dC (.int 3)) (dCons (dC (.int 1)) (dNil))))) (dCons (dTup (dCons (dC (.int 3)) (dCons (dC (.int 5)) (dCons (dC (.int 2)) (dNil))))) (dCons (dTup (dCons (dC (.int 5)) (dCons (dC (.int 9)) (dCons (dC (.int 1)) (dNil))))) (dNil))))))) (dRet (dC (.bl false))) (dNext)) (dSeq (dIfS (dNot (dAnd (dB (dBin aEq (dCall f_first_fit (dCons (dTup (dCons (dTup (dCons (dC (.int 1)) (dCons (dC (.int 9)) (dNil)))) (dNil))) (dCons (dC (.int 3)) (dCons (dC (.int 4)) (dCons (dC (.int 2)) (dNil)))))) (dC (.int 4)))) (dB (dBin aEq (dCall f_wider (dCons (dTup (dCons (dTup (dCons (dC (.int 1)) (dCons (dC (.int 5)) (dNil)))) (dCons (dTup (dCons (dC (.int 7)) (dCons (dC (.int 8)) (dNil)))) (dNil)))) (dCons (dC (.int 1)) (dCons (dC (.int 1)) (dNil))))) (dTup (dCons (dTup (dCons (dC (.int 0)) (dCons (dC (.int 9)) (dNil)))) (dNil))))))) (dRet (dC (.bl false))) (dNext)) (dSeq (dIfS (dNot (dAnd (dB (dBin aEq (dCall f_fewest_points (dCons (dTup (dCons (dTup (dCons (dC (.int 1)) (dCons (dC (.int 5)) (dNil)))) (dCons (dTup (dCons (dC (.int 3)) (dCons (dC (.int 9)) (dNil)))) (dCons (dTup (dCons (dC (.int 7)) (dCons (dC (.int 12)) (dNil)))) (dNil))))) (dNil))) (dTup (dCons (dC (.int 4)) (dCons (dC (.int 11)) (dNil)))))) (dB (dBin aEq (dCall f_most_apart (dCons (dTup (dCons (dTup (dCons (dC (.int 1)) (dCons (dC (.int 5)) (dNil)))) (dCons (dTup (dCons (dC (.int 3)) (dCons (dC (.int 9)) (dNil)))) (dCons (dTup (dCons (dC (.int 5)) (dCons (dC (.int 12)) (dNil)))) (dNil))))) (dNil))) (dTup (dCons (dC (.int 0)) (dCons (dC (.int 2)) (dNil)))))))) (dRet (dC (.bl false))) (dNext)) (dSeq (dIfS (dNot (dAnd (dB (dBin aEq (dCall f_joined (dCons (dTup (dNil)) (dNil))) (dTup (dNil)))) (dAnd (dB (dBin aEq (dCall f_most_at_once (dCons (dTup (dNil)) (dNil))) (dC (.int 0)))) (dB (dBin aEq (dCall f_gaps_in (dCons (dTup (dNil)) (dCons (dC (.int 1)) (dCons (dC (.int 2)) (dNil))))) (dTup (dCons (dTup (dCons (dC (.int 1)) (dCons (dC (.int 2)) (dNil)))) (dNil)))))))) (dRet (dC (.bl false))) (dNext)) (dRet (dBin aEq (dCall f_wider (dCons (dTup (dCons (dTup (dCons (dC (.int 1)) (dCons (dC (.int 3)) (dNil)))) (dNil))) (dCons (dNeg (dC (.int 1))) (dCons (dNeg (dC (.int 1))) (dNil))))) (dTup (dNil)))))))))))))
def f__law_plain : List D → Store → R D := runB 2 b__law_plain
theorem fn__law_plain (T : Txt g mg) (B : Tbs g mg base) : FnD P w mg base g 16 "_law_plain" 0 f__law_plain := by
  have F__law_told := (fn__law_told (P := P) (w := w) (base := base) T B)
  have F_fewest_points := (fn_fewest_points (P := P) (w := w) (base := base) T B)
  have F_first_fit := (fn_first_fit (P := P) (w := w) (base := base) T B)
  have F_gaps_in := (fn_gaps_in (P := P) (w := w) (base := base) T B)
  have F_how_lies := (fn_how_lies (P := P) (w := w) (base := base) T B)
  have F_how_many_at := (fn_how_many_at (P := P) (w := w) (base := base) T B)
  have F_joined := (fn_joined (P := P) (w := w) (base := base) T B)
  have F_most_apart := (fn_most_apart (P := P) (w := w) (base := base) T B)
  have F_most_at_once := (fn_most_at_once (P := P) (w := w) (base := base) T B)
  have F_wider := (fn_wider (P := P) (w := w) (base := base) T B)
  have F_without := (fn_without (P := P) (w := w) (base := base) T B)
  refine (fn_L T.d__law_plain B.t__law_plain T.mT__law_plain T.hu__law_plain sc__law_plain rfl fun fa cdv A outer s H E O M => ?_)
  exact ss_cons (s_asg (pd_lst false (pa_cons (pd_lam 0 (l := lam_0) M T.l_0) (pa_cons (pd_lam 1 (l := lam_1) M T.l_1) (pa_cons (pd_lam 2 (l := lam_2) M T.l_2) (pa_cons (pd_lam 3 (l := lam_3) M T.l_3) (pa_cons (pd_lam 4 (l := lam_4) M T.l_4) (pa_cons (pd_lam 5 (l := lam_5) M T.l_5) (pa_cons (pd_lam 6 (l := lam_6) M T.l_6) (pa_cons (pd_lam 7 (l := lam_7) M T.l_7) (pa_cons (pd_lam 8 (l := lam_8) M T.l_8) (pa_cons (pd_lam 9 (l := lam_9) M T.l_9) (pa_cons (pd_lam 10 (l := lam_10) M T.l_10) (pa_cons (pd_lam 11 (l := lam_11) M T.l_11) (pa_cons (pd_lam 12 (l := lam_12) M T.l_12) (pa_cons (pd_lam 13 (l := lam_13) M T.l_13) (pa_cons (pd_lam 14 (l := lam_14) M T.l_14) (pa_cons (pd_lam 15 (l := lam_15) M T.l_15) (pa_cons (pd_lam 16 (l := lam_16) M T.l_16) (pa_cons (pd_lam 17 (l := lam_17) M T.l_17) (pa_cons (pd_lam 18 (l := lam_18) M T.l_18) (pa_nil))))))))))))))))))))) (g_name 0 O)) (ss_cons (s_if (pt_cmp (oNe O) (pd_lc false (own := [(("f" : Str), 1)]) O (i_seq O (pd_var 0)) (blkOk_by (N := ["bad", "f"]) (sc := defScope s__law_plain) (by decide +kernel)) (fun _ _ _ _ _ => g_name 1 (O.blk _ _ _ _ _)) (fun _ _ _ _ _ => ts_one (pt_cmp (oNe (O.blk _ _ _ _ _)) (pd_call (O.blk _ _ _ _ _) F__law_told (by decide) (pa_cons (pd_var 1) (pa_nil)) (len_cons_ (fun _ _ _ _ h => len_nil_ h))) (pd_str))) (fun _ _ _ _ _ => pd_int)) (pd_lst false (pa_nil))) (ss_one (s_ret (pd_bl))) (ss_nil)) (ss_cons (s_if (pt_cmp (oNe O) (pd_glob T.g_WAYS_TO_LIE) (pd_tup (pa_cons (pd_str) (pa_cons (pd_str) (pa_cons (pd_str) (pa_cons (pd_str) (pa_cons (pd_str) (pa_cons (pd_str) (pa_cons (pd_str) (pa_nil)))))))))) (ss_one (s_ret (pd_bl))) (ss_nil)) (ss_cons (s_if (pt_cmp (oNe O) (pd_call O F_joined (by decide) (pa_cons (pd_tup (pa_cons (pd_tup (pa_cons (pd_int) (pa_cons (pd_int) (pa_nil)))) (pa_cons (pd_tup (pa_cons (pd_int) (pa_cons (pd_int) (pa_nil)))) (pa_cons (pd_tup (pa_cons (pd_int) (pa_cons (pd_int) (pa_nil)))) (pa_nil))))) (pa_nil)) (len_cons_ (fun _ _ _ _ h => len_nil_ h))) (pd_tup (pa_cons (pd_tup (pa_cons (pd_int) (pa_cons (pd_int) (pa_nil)))) (pa_cons (pd_tup (pa_cons (pd_int) (pa_cons (pd_int) (pa_nil)))) (pa_nil))))) (ss_one (s_ret (pd_bl))) (ss_nil)) (ss_cons (s_if (pt_cmp (oNe O) (pd_call O F_without (by decide) (pa_cons (pd_tup (pa_cons (pd_tup (pa_cons (pd_int) (pa_cons (pd_int) (pa_nil)))) (pa_nil))) (pa_cons (pd_tup (pa_cons (pd_tup (pa_cons (pd_int) (pa_cons (pd_int) (pa_nil)))) (pa_cons (pd_tup (pa_cons (pd_int) (pa_cons (pd_int) (pa_nil)))) (pa_nil)))) (pa_nil))) (len_cons_ (len_cons_ (fun _ _ _ _ h => len_nil_ h)))) (pd_tup (pa_cons (pd_tup (pa_cons (pd_int) (pa_cons (pd_int) (pa_nil)))) (pa_cons (pd_tup (pa_cons (pd_int) (pa_cons (pd_int) (pa_nil)))) (pa_cons (pd_tup (pa_cons (pd_int) (pa_cons (pd_int) (pa_nil)))) (pa_nil)))))) (ss_one (s_ret (pd_bl))) (ss_nil)) (ss_cons (s_if (pt_not (pt_w (pw_and (pt_cmp (oEq O) (pd_call O F_how_lies (by decide) (pa_cons (pd_tup (pa_cons (pd_int) (pa_cons (pd_int) (pa_nil)))) (pa_cons (pd_tup (pa_cons (pd_int) (pa_cons (pd_int) (pa_nil)))) (pa_nil))) (len_cons_ (len_cons_ (fun _ _ _ _ h => len_nil_ h)))) (pd_tup (pa_cons (pd_str) (pa_cons (pd_bl) (pa_nil))))) (pw_and1 (pt_cmp (oEq O) (pd_call O F_how_lies (by decide) (pa_cons (pd_tup (pa_cons (pd_int) (pa_cons (pd_int) (pa_nil)))) (pa_cons (pd_tup (pa_cons (pd_int) (pa_cons (pd_int) (pa_nil)))) (pa_nil))) (len_cons_ (len_cons_ (fun _ _ _ _ h => len_nil_ h)))) (pd_tup (pa_cons (pd_str) (pa_cons (pd_bl) (pa_nil))))))))) (ss_one (s_ret (pd_bl))) (ss_nil)) (ss_cons (s_if (pt_cmp (oNe O) (pd_call O F_how_many_at (by decide) (pa_cons (pd_tup (pa_cons (pd_tup (pa_cons (pd_int) (pa_cons (pd_int) (pa_nil)))) (pa_cons (pd_tup (pa_cons (pd_int) (pa_cons (pd_int) (pa_nil)))) (pa_nil)))) (pa_nil)) (len_cons_ (fun _ _ _ _ h => len_nil_ h))) (pd_tup (pa_cons (pd_tup (pa_cons (pd_int) (pa_cons (pd_int) (pa_cons (pd_int) (pa_nil))))) (pa_cons (pd_tup (pa_cons (pd_int) (pa_cons (pd_int) (pa_cons (pd_int) (pa_nil))))) (pa_cons (pd_tup (pa_cons (pd_int) (pa_cons (pd_int) (pa_cons (pd_int) (pa_nil))))) (pa_nil)))))) (ss_one (s_ret (pd_bl))) (ss_nil)) (ss_cons (s_if (pt_not (pt_w (pw_and (pt_cmp (oEq O) (pd_call O F_first_fit (by decide) (pa_cons (pd_tup (pa_cons (pd_tup (pa_cons (pd_int) (pa_cons (pd_int) (pa_nil)))) (pa_nil))) (pa_cons (pd_int) (pa_cons (pd_int) (pa_cons (pd_int) (pa_nil))))) (len_cons_ (len_cons_ (len_cons_ (len_cons_ (fun _ _ _ _ h => len_nil_ h)))))) (pd_int)) (pw_and1 (pt_cmp (oEq O) (pd_call O F_wider (by decide) (pa_cons (pd_tup (pa_cons (pd_tup (pa_cons (pd_int) (pa_cons (pd_int) (pa_nil)))) (pa_cons (pd_tup (pa_cons (pd_int) (pa_cons (pd_int) (pa_nil)))) (pa_nil)))) (pa_cons (pd_int) (pa_cons (pd_int) (pa_nil)))) (len_cons_ (len_cons_ (len_cons_ (fun _ _ _ _ h => len_nil_ h))))) (pd_tup (pa_cons (pd_tup (pa_cons (pd_int) (pa_cons (pd_int) (pa_nil)))) (pa_nil)))))))) (ss_one (s_ret (pd_bl))) (ss_nil)) (ss_cons (s_if (pt_not (pt_w (pw_and (pt_cmp (oEq O) (pd_call O F_fewest_points (by decide) (pa_cons (pd_tup (pa_cons (pd_tup (pa_cons (pd_int) (pa_cons (pd_int) (pa_nil)))) (pa_cons (pd_tup (pa_cons (pd_int) (pa_cons (pd_int) (pa_nil)))) (pa_cons (pd_tup (pa_cons (pd_int) (pa_cons (pd_int) (pa_nil)))) (pa_nil))))) (pa_nil)) (len_cons_ (fun _ _ _ _ h => len_nil_ h))) (pd_tup (pa_cons (pd_int) (pa_cons (pd_int) (pa_nil))))) (pw_and1 (pt_cmp (oEq O) (pd_call O F_most_apart (by decide) (pa_cons (pd_tup (pa_cons (pd_tup (pa_cons (pd_int) (pa_cons (pd_int) (pa_nil)))) (pa_cons (pd_tup (pa_cons (pd_int) (pa_cons (pd_int) (pa_nil)))) (pa_cons (pd_tup (pa_cons (pd_int) (pa_cons (pd_int) (pa_nil)))) (pa_nil))))) (pa_nil)) (len_cons_ (fun _ _ _ _ h => len_nil_ h))) (pd_tup (pa_cons (pd_int) (pa_cons (pd_int) (pa_nil))))))))) (ss_one (s_ret (pd_bl))) (ss_nil)) (ss_cons (s_if (pt_not (pt_w (pw_and (pt_cmp (oEq O) (pd_call O F_joined (by decide) (pa_cons (pd_tup (pa_nil)) (pa_nil)) (len_cons_ (fun _ _ _ _ h => len_nil_ h))) (pd_tup (pa_nil))) (pw_and (pt_cmp (oEq O) (pd_call O F_most_at_once (by decide) (pa_cons (pd_tup (pa_nil)) (pa_nil)) (len_cons_ (fun _ _ _ _ h => len_nil_ h))) (pd_int)) (pw_and1 (pt_cmp (oEq O) (pd_call O F_gaps_in (by decide) (pa_cons (pd_tup (pa_nil)) (pa_cons (pd_int) (pa_cons (pd_int) (pa_nil)))) (len_cons_ (len_cons_ (len_cons_ (fun _ _ _ _ h => len_nil_ h))))) (pd_tup (pa_cons (pd_tup (pa_cons (pd_int) (pa_cons (pd_int) (pa_nil)))) (pa_nil))))))))) (ss_one (s_ret (pd_bl))) (ss_nil)) (ss_one (s_ret (pd_cmp (oEq O) (pd_call O F_wider (by decide) (pa_cons (pd_tup (pa_cons (pd_tup (pa_cons (pd_int) (pa_cons (pd_int) (pa_nil)))) (pa_nil))) (pa_cons (pd_neg (pd_int)) (pa_cons (pd_neg (pd_int)) (pa_nil)))) (len_cons_ (len_cons_ (len_cons_ (fun _ _ _ _ h => len_nil_ h))))) (pd_tup (pa_nil))))))))))))))
/-! _law_roll -/
def b__law_roll (self : List D → Store → R D) : DS := dSeq (dIfS (dOr (dB (dBin aEq (dBin aIx (dVar 0) (dC (.int 2))) (dC (.int 2)))) (dAnd (dB (dBin aEq (dBin aIx (dVar 0) (dC (.int 2))) (dC (.int 1)))) (dB (dBin aGt (dBin aIx (dVar 0) (dC (.int 0))) (dC (.int 0)))))) (dSeq (dAsg (dBin aMod (dCall bInt (dCons (dBin aIx (dVar 0) (dC (.int 0))) (dNil))) (dVar 1)) (dgName 2)) (dSeq (dSetL (dBin aFdiv (dBin aIx (dVar 0) (dC (.int 0))) (dVar 1)) (dVar 0) (dC (.int 0))) (dRet (dVar 2)))) (dNext)) (dSeq (dSetL (dC (.int 0)) (dVar 0) (dC (.int 2))) (dSeq (dIfS (dB (dBin aGt (dVar 1) (dC (.int 100000000)))) (dRet (dBin aMod (dCall bInt (dCons (dBin (aAdd false) (dBin (aMul false) (dCall self (dCons (dVar 0) (dCons (dBin (aAdd false) (dBin aFdiv (dVar 1) (dC (.int 100000000))) (dC (.int 1))) (dNil)))) (dC (.int 100000000))) (dCall self (dCons (dVar 0) (dCons (dC (.int 100000000)) (dNil))))) (dNil))) (dVar 1))) (dNext)) (dSeq (dSetL (dBin aMod (dCall bInt (dCons (dBin (aAdd false) (dBin (aAdd false) (dBin (aMul false) (dBin aIx (dVar 0) (dC (.int 0))) (dC (.int 48271))) (dBin (aMul false) (dBin aIx (dVar 0) (dC (.int 1))) (dC (.int 69621)))) (dC (.int 11))) (dNil))) (dC (.int 2147483647))) (dVar 0) (dC (.int 0))) (dSeq (dSetL (dBin (aAdd false) (dBin aIx (dVar 0) (dC (.int 1))) (dC (.int 1))) (dVar 0) (dC (.int 1))) (dRet (dBin aMod (dCall bInt (dCons (dBin aFdiv (dBin aIx (dVar 0) (dC (.int 0))) (dC (.int 7))) (dNil))) (dVar 1)))))))
def r__law_roll : Nat → List D → Store → R D
  | 0 => fun _ _ => .bad
  | m + 1 => runB 3 (b__law_roll (r__law_roll m))
def f__law_roll : List D → Store → R D := r__law_roll 4
theorem fr__law_roll (T : Txt g mg) (B : Tbs g mg base) : ∀ m, FnD P w mg base g (0 + m) "_law_roll" 2 (r__law_roll m) := by
  refine fn_rec (N := ["dice", "many", "found"]) T.d__law_roll rfl r__law_roll rfl (fun _ => rfl) fun m Fself => fn_D T.d__law_roll sc__law_roll rfl fun fa cdv A outer s H E O => ?_
  exact ss_cons (s_if (pt_w (pw_or (pt_cmp (oEq O) (pd_ix O (pd_var 0) (pd_int)) (pd_int)) (pw_or1 (pt_w (pw_and (pt_cmp (oEq O) (pd_ix O (pd_var 0) (pd_int)) (pd_int)) (pw_and1 (pt_cmp oGt (pd_ix O (pd_var 0) (pd_int)) (pd_int)))))))) (ss_cons (s_asg (pd_bin oMod (pd_callT cInt T.n_int PyProof.Rows.boot_int (pa_cons (pd_ix O (pd_var 0) (pd_int)) (pa_nil))) (pd_var 1)) (g_name 2 O)) (ss_cons (s_setL (pd_bin oFdiv (pd_ix O (pd_var 0) (pd_int)) (pd_var 1)) (pd_var 0) (pd_int)) (ss_one (s_ret (pd_var 2))))) (ss_nil)) (ss_cons (s_setL (pd_int) (pd_var 0) (pd_int)) (ss_cons (s_if (pt_cmp oGt (pd_var 1) (pd_int)) (ss_one (s_ret (pd_bin oMod (pd_callT cInt T.n_int PyProof.Rows.boot_int (pa_cons (pd_bin (oAdd O) (pd_bin oMul (pd_call O Fself (by omega) (pa_cons (pd_var 0) (pa_cons (pd_bin (oAdd O) (pd_bin oFdiv (pd_var 1) (pd_int)) (pd_int)) (pa_nil))) (len_cons_ (len_cons_ (fun _ _ _ _ h => len_nil_ h)))) (pd_int)) (pd_call O Fself (by omega) (pa_cons (pd_var 0) (pa_cons (pd_int) (pa_nil))) (len_cons_ (len_cons_ (fun _ _ _ _ h => len_nil_ h))))) (pa_nil))) (pd_var 1)))) (ss_nil)) (ss_cons (s_setL (pd_bin oMod (pd_callT cInt T.n_int PyProof.Rows.boot_int (pa_cons (pd_bin (oAdd O) (pd_bin (oAdd O) (pd_bin oMul (pd_ix O (pd_var 0) (pd_int)) (pd_int)) (pd_bin oMul (pd_ix O (pd_var 0) (pd_int)) (pd_int))) (pd_int)) (pa_nil))) (pd_int)) (pd_var 0) (pd_int)) (ss_cons (s_setL (pd_bin (oAdd O) (pd_ix O (pd_var 0) (pd_int)) (pd_int)) (pd_var 0) (pd_int)) (ss_one (s_ret (pd_bin oMod (pd_callT cInt T.n_int PyProof.Rows.boot_int (pa_cons (pd_bin oFdiv (pd_ix O (pd_var 0) (pd_int)) (pd_int)) (pa_nil))) (pd_var 1))))))))
theorem fn__law_roll (T : Txt g mg) (B : Tbs g mg base) : FnD P w mg base g 4 "_law_roll" 2 f__law_roll := fr__law_roll T B 4
/-! _law_dice -/
def b__law_dice : DS := dSeq (dIfS (dB (dChain aLt aLt (dBin aSub (dC (.int 0)) (dC (.int 10))) (dVar 0) (dC (.int 10)))) (dRet (dLst true (dCons (dCall bAbs (dCons (dVar 0) (dNil))) (dCons (dC (.int 0)) (dCons (dC (.int 2)) (dNil)))))) (dNext)) (dRet (dLst true (dCons (dVar 0) (dCons (dBin (aAdd false) (dC (.int 1)) (dBin aMod (dCall bInt (dCons (dVar 0) (dNil))) (dC (.int 1009)))) (dCons (dCall bInt (dCons (dBin aGe (dVar 0) (dBin aPow (dC (.int 10)) (dC (.int 18)))) (dNil))) (dNil))))))
def f__law_dice : List D → Store → R D := runB 1 b__law_dice
theorem fn__law_dice (T : Txt g mg) (B : Tbs g mg base) : FnD P w mg base g 1 "_law_dice" 1 f__law_dice := by
  refine (fn_D T.d__law_dice sc__law_dice rfl fun fa cdv A outer s H E O => ?_)
  exact ss_cons (s_if (pt_chain (oLt O) (oLt O) (pd_bin oSub (pd_int) (pd_int)) (pd_var 0) (pd_int)) (ss_one (s_ret (pd_lst true (pa_cons (pd_callB cAbs T.n_abs PyProof.Rows.boot_abs (pa_cons (pd_var 0) (pa_nil))) (pa_cons (pd_int) (pa_cons (pd_int) (pa_nil))))))) (ss_nil)) (ss_one (s_ret (pd_lst true (pa_cons (pd_var 0) (pa_cons (pd_bin (oAdd O) (pd_int) (pd_bin oMod (pd_callT cInt T.n_int PyProof.Rows.boot_int (pa_cons (pd_var 0) (pa_nil))) (pd_int))) (pa_cons (pd_callT cInt T.n_int PyProof.Rows.boot_int (pa_cons (pd_cmp oGe (pd_var 0) (pd_bin oPow (pd_int) (pd_int))) (pa_nil))) (pa_nil)))))))
/-! _law_rounds -/
def y__law_rounds_1 : DE := dCall f__law_dice (dCons (dVar 3) (dNil))
def b__law_rounds : DS := dSeq (dAsg (dSl false (dVar 0) (dNoP) (dP (dVar 1))) (dgName 2)) (dSeq (dIfS (dB (dBin aEq (dVar 2) (dLst false (dNil)))) (dAsg (dLst false (dCons (dC (.int 0)) (dNil))) (dgName 2)) (dNext)) (dRet (dLc false (dIt (dVar 2)) (dgName 3) (dYes) y__law_rounds_1 [3])))
def f__law_rounds : List D → Store → R D := runB 4 b__law_rounds
theorem fn__law_rounds (T : Txt g mg) (B : Tbs g mg base) : FnD P w mg base g 2 "_law_rounds" 2 f__law_rounds := by
  have F__law_dice := (fn__law_dice (P := P) (w := w) (base := base) T B)
  refine (fn_D T.d__law_rounds sc__law_rounds rfl fun fa cdv A outer s H E O => ?_)
  exact ss_cons (s_asg (pd_slice false O (pd_var 0) (po_none) (po_some (pd_var 1))) (g_name 2 O)) (ss_cons (s_if (pt_cmp (oEq O) (pd_var 2) (pd_lst false (pa_nil))) (ss_one (s_asg (pd_lst false (pa_cons (pd_int) (pa_nil))) (g_name 2 O))) (ss_nil)) (ss_one (s_ret (pd_lc false (own := [(("cell" : Str), 3)]) O (i_seq O (pd_var 2)) (blkOk_by (N := ["script", "most", "cells", "cell"]) (sc := defScope s__law_rounds) (by decide +kernel)) (fun _ _ _ _ _ => g_name 3 (O.blk _ _ _ _ _)) (fun _ _ _ _ _ => ts_nil) (fun _ _ _ _ _ => pd_call (O.blk _ _ _ _ _) F__law_dice (by decide) (pa_cons (pd_var 3) (pa_nil)) (len_cons_ (fun _ _ _ _ h => len_nil_ h)))))))
/-! _law_rows -/
def y__law_rows_1 : DE := dCall f__law_roll (dCons (dVar 0) (dCons (dC (.int 25)) (dNil)))
def y__law_rows_2 : DE := dTup (dCons (dVar 1) (dCons (dBin (aAdd false) (dBin (aAdd false) (dVar 1) (dC (.int 1))) (dCall f__law_roll (dCons (dVar 0) (dCons (dC (.int 8)) (dNil))))) (dNil)))
def b__law_rows : DS := dRet (dLc false (dIt (dLc false (dRng1 (dCall f__law_roll (dCons (dVar 0) (dCons (dC (.int 6)) (dNil))))) (dgName 2) (dYes) y__law_rows_1 [2])) (dgName 1) (dYes) y__law_rows_2 [1])
def f__law_rows : List D → Store → R D := runB 3 b__law_rows
theorem fn__law_rows (T : Txt g mg) (B : Tbs g mg base) : FnD P w mg base g 5 "_law_rows" 1 f__law_rows := by
  have F__law_roll := (fn__law_roll (P := P) (w := w) (base := base) T B)
  refine (fn_D T.d__law_rows sc__law_rows rfl fun fa cdv A outer s H E O => ?_)
  exact ss_one (s_ret (pd_lc false (own := [(("start" : Str), 1)]) O (i_seq O (pd_lc false (own := [(("k" : Str), 2)]) O (i_range1 T.n_range (pd_call O F__law_roll (by decide) (pa_cons (pd_var 0) (pa_cons (pd_int) (pa_nil))) (len_cons_ (len_cons_ (fun _ _ _ _ h => len_nil_ h))))) (blkOk_by (N := ["dice", "start", "k"]) (sc := defScope s__law_rows) (by decide +kernel)) (fun _ _ _ _ _ => g_name 2 (O.blk _ _ _ _ _)) (fun _ _ _ _ _ => ts_nil) (fun _ _ _ _ _ => pd_call (O.blk _ _ _ _ _) F__law_roll (by decide) (pa_cons (pd_var 0) (pa_cons (pd_int) (pa_nil))) (len_cons_ (len_cons_ (fun _ _ _ _ h => len_nil_ h)))))) (blkOk_by (N := ["dice", "start", "k"]) (sc := defScope s__law_rows) (by decide +kernel)) (fun _ _ _ _ _ => g_name 1 (O.blk _ _ _ _ _)) (fun _ _ _ _ _ => ts_nil) (fun _ _ _ _ _ => pd_tup (pa_cons (pd_var 1) (pa_cons (pd_bin (oAdd (O.blk _ _ _ _ _)) (pd_bin (oAdd (O.blk _ _ _ _ _)) (pd_var 1) (pd_int)) (pd_call (O.blk _ _ _ _ _) F__law_roll (by decide) (pa_cons (pd_var 0) (pa_cons (pd_int) (pa_nil))) (len_cons_ (len_cons_ (fun _ _ _ _ h => len_nil_ h))))) (pa_nil))))))
/-! _law_sets -/
def y__law_sets_1 : DE := dBin (aAdd false) (dVar 3) (dTup (dCons (dVar 2) (dNil)))
def l__law_sets_1 : DS := dAsg (dBin (aAdd false) (dVar 1) (dLc false (dIt (dVar 1)) (dgName 3) (dYes) y__law_sets_1 [3])) (dgName 1)
def b__law_sets : DS := dSeq (dAsg (dLst false (dCons (dTup (dNil)) (dNil))) (dgName 1)) (dSeq (dFor (dIt (dVar 0)) (dgName 2) l__law_sets_1) (dRet (dVar 1)))
def f__law_sets : List D → Store → R D := runB 4 b__law_sets
theorem fn__law_sets (T : Txt g mg) (B : Tbs g mg base) : FnD P w mg base g 1 "_law_sets" 1 f__law_sets := by
  refine (fn_D T.d__law_sets sc__law_sets rfl fun fa cdv A outer s H E O => ?_)
  exact ss_cons (s_asg (pd_lst false (pa_cons (pd_tup (pa_nil)) (pa_nil))) (g_name 1 O)) (ss_cons (s_for O (i_seq O (pd_var 0)) (g_name 2 O) (ss_one (s_asg (pd_bin (oAdd O) (pd_var 1) (pd_lc false (own := [(("row" : Str), 3)]) O (i_seq O (pd_var 1)) (blkOk_by (N := ["things", "rows", "thing", "row"]) (sc := defScope s__law_sets) (by decide +kernel)) (fun _ _ _ _ _ => g_name 3 (O.blk _ _ _ _ _)) (fun _ _ _ _ _ => ts_nil) (fun _ _ _ _ _ => pd_bin (oAdd (O.blk _ _ _ _ _)) (pd_var 3) (pd_tup (pa_cons (pd_var 2) (pa_nil)))))) (g_name 1 O)))) (ss_one (s_ret (pd_var 1))))
/-! law -/
def p_law_1 : DS := dAsg (dTup (dCons (dCall f__law_rows (dCons (dVar 1) (dNil))) (dCons (dCall f__law_rows (dCons (dVar 1) (dNil))) (dNil)))) (dgTup 2 (dgCons (dgName 2) (dgCons (dgName 3) (dgNil))))
def p_law_2 : DS := dAsg (dListR2 false (dNeg (dC (.int 12))) (dC (.int 52))) (dgName 4)
def y_law_1 : DE := dVar 7
def y_law_2 : DE := dVar 7
def p_law_3 : DS := dAsg (dTup (dCons (dLc false (dIt (dVar 4)) (dgName 7) (dTru (dCall f__law_at (dCons (dVar 2) (dCons (dVar 7) (dNil))))) y_law_1 [7]) (dCons (dLc false (dIt (dVar 4)) (dgName 7) (dTru (dCall f__law_at (dCons (dVar 3) (dCons (dVar 7) (dNil))))) y_law_2 [7]) (dNil)))) (dgTup 2 (dgCons (dgName 5) (dgCons (dgName 6) (dgNil))))
def p_law_4 : DS := dIfS (dB (dBin aNe (dCall (bList false) (dCons (dCall f_joined (dCons (dVar 2) (dNil))) (dNil))) (dCall f__law_made (dCons (dVar 5) (dNil))))) (dRet (dC (.bl false))) (dNext)
def y_law_3 : DE := dVar 7
def p_law_5 : DS := dIfS (dB (dBin aNe (dCall (bList false) (dCons (dCall f_common (dCons (dVar 2) (dCons (dVar 3) (dNil)))) (dNil))) (dCall f__law_made (dCons (dLc false (dIt (dVar 5)) (dgName 7) (dB (dBin (aIn false) (dVar 7) (dVar 6))) y_law_3 [7]) (dNil))))) (dRet (dC (.bl false))) (dNext)
def y_law_4 : DE := dVar 7
def p_law_6 : DS := dIfS (dB (dBin aNe (dCall (bList false) (dCons (dCall f_without (dCons (dVar 2) (dCons (dVar 3) (dNil)))) (dNil))) (dCall f__law_made (dCons (dLc false (dIt (dVar 5)) (dgName 7) (dB (dBin (aIn true) (dVar 7) (dVar 6))) y_law_4 [7]) (dNil))))) (dRet (dC (.bl false))) (dNext)
def y_law_5 : DE := dVar 7
def p_law_7 : DS := dIfS (dB (dBin aNe (dCall (bList false) (dCons (dCall f_either (dCons (dVar 2) (dCons (dVar 3) (dNil)))) (dNil))) (dCall f__law_made (dCons (dLc false (dIt (dVar 4)) (dgName 7) (dB (dBin aNe (dBin (aIn false) (dVar 7) (dVar 5)) (dBin (aIn false) (dVar 7) (dVar 6)))) y_law_5 [7]) (dNil))))) (dRet (dC (.bl false))) (dNext)
def p_law_8 : DS := dIfS (dB (dBin aNe (dCall f_length_of (dCons (dVar 2) (dNil))) (dCall bLen (dCons (dVar 5) (dNil))))) (dRet (dC (.bl false))) (dNext)
def p_law_9 : DS := dAsg (dCall f__law_roll (dCons (dVar 1) (dCons (dC (.int 20)) (dNil)))) (dgName 8)
def p_law_10 : DS := dAsg (dBin (aAdd false) (dBin (aAdd false) (dVar 8) (dC (.int 1))) (dCall f__law_roll (dCons (dVar 1) (dCons (dC (.int 15)) (dNil))))) (dgName 9)
def y_law_6 : DE := dVar 7
def p_law_11 : DS := dIfS (dB (dBin aNe (dCall (bList false) (dCons (dCall f_gaps_in (dCons (dVar 2) (dCons (dVar 8) (dCons (dVar 9) (dNil))))) (dNil))) (dCall f__law_made (dCons (dLc false (dRng2 (dVar 8) (dVar 9)) (dgName 7) (dB (dBin (aIn true) (dVar 7) (dVar 5))) y_law_6 [7]) (dNil))))) (dRet (dC (.bl false))) (dNext)
def y_law_7 : DE := dCall f_holds_at (dCons (dVar 2) (dCons (dVar 7) (dNil)))
def y_law_8 : DE := dBin (aIn false) (dVar 7) (dVar 5)
def p_law_12 : DS := dIfS (dB (dBin aNe (dLc false (dIt (dVar 4)) (dgName 7) (dYes) y_law_7 [7]) (dLc false (dIt (dVar 4)) (dgName 7) (dYes) y_law_8 [7]))) (dRet (dC (.bl false))) (dNext)
def l_law_1 : DS := dSeq (dIfS (dB (dBin aNe (dCall f_how_lies (dCons (dVar 10) (dCons (dVar 11) (dNil)))) (dCall f__law_lies (dCons (dVar 10) (dCons (dVar 11) (dNil)))))) (dRet (dC (.bl false))) (dNext)) (dIfS (dB (dBin aNe (dBin aIsN (dCall f_plain_lies (dCons (dVar 10) (dCons (dVar 11) (dNil)))) (dC .non)) (dBin aIx (dCall f__law_lies (dCons (dVar 10) (dCons (dVar 11) (dNil)))) (dC (.int 1))))) (dRet (dC (.bl false))) (dNext))
def l_law_2 : DS := dFor (dIt (dVar 3)) (dgName 11) l_law_1
def p_law_13 : DS := dFor (dIt (dVar 2)) (dgName 10) l_law_2
def y_law_9 : DE := dC (.int 1)
def y_law_10 : DE := dCall bLen (dCons (dLc false (dIt (dVar 2)) (dgTup 2 (dgCons (dgName 13) (dgCons (dgName 14) (dgNil)))) (dB (dChain aLeT aLt (dVar 13) (dVar 7) (dVar 14))) y_law_9 [13, 14]) (dNil))
def p_law_14 : DS := dAsg (dLc false (dIt (dVar 4)) (dgName 7) (dYes) y_law_10 [7]) (dgName 12)
def p_law_15 : DS := dAsg (dTup (dCons (dCall f_how_many_at (dCons (dVar 2) (dNil))) (dCons (dBin (aAdd false) (dC (.int 1)) (dCall f__law_roll (dCons (dVar 1) (dCons (dC (.int 3)) (dNil))))) (dNil)))) (dgTup 2 (dgCons (dgName 15) (dgCons (dgName 16) (dgNil))))
def y_law_11 : DE := dBin aIx (dVar 10) (dC (.int 2))
def y_law_12 : DE := dCall bSum (dCons (dLc false (dIt (dVar 15)) (dgName 10) (dB (dChain aLeT aLt (dBin aIx (dVar 10) (dC (.int 0))) (dVar 7) (dBin aIx (dVar 10) (dC (.int 1))))) y_law_11 [10]) (dNil))
def p_law_16 : DS := dIfS (dB (dBin aNe (dLc false (dIt (dVar 4)) (dgName 7) (dYes) y_law_12 [7]) (dVar 12))) (dRet (dC (.bl false))) (dNext)
def y_law_13 : DE := dC (.int 1)
def p_law_17 : DS := dIfS (dB (dBin aNe (dLc false (dZip (dVar 15) (dSl false (dVar 15) (dP (dC (.int 1))) (dNoP))) (dgTup 2 (dgCons (dgName 10) (dgCons (dgName 11) (dgNil)))) (dOr (dB (dBin aGt (dBin aIx (dVar 10) (dC (.int 1))) (dBin aIx (dVar 11) (dC (.int 0))))) (dAnd (dB (dBin aEq (dBin aIx (dVar 10) (dC (.int 1))) (dBin aIx (dVar 11) (dC (.int 0))))) (dB (dBin aEq (dBin aIx (dVar 10) (dC (.int 2))) (dBin aIx (dVar 11) (dC (.int 2))))))) y_law_13 [10, 11]) (dLst false (dNil)))) (dRet (dC (.bl false))) (dNext)
def y_law_14 : DE := dVar 10
def p_law_18 : DS := dIfS (dB (dBin aNe (dLc false (dIt (dVar 15)) (dgName 10) (dB (dBin aLt (dBin aIx (dVar 10) (dC (.int 2))) (dC (.int 1)))) y_law_14 [10]) (dLst false (dNil)))) (dRet (dC (.bl false))) (dNext)
def p_law_19 : DS := dIfS (dB (dBin aNe (dCall f_most_at_once (dCons (dVar 2) (dNil))) (dCall bMaxA (dCons (dVar 12) (dNil))))) (dRet (dC (.bl false))) (dNext)
def y_law_15 : DE := dVar 7
def p_law_20 : DS := dIfS (dB (dBin aNe (dCall (bList false) (dCons (dCall f_in_at_least (dCons (dVar 2) (dCons (dVar 16) (dNil)))) (dNil))) (dCall f__law_made (dCons (dLc false (dZip (dVar 4) (dVar 12)) (dgTup 2 (dgCons (dgName 7) (dgCons (dgName 17) (dgNil)))) (dB (dBin aGe (dVar 17) (dVar 16))) y_law_15 [7, 17]) (dNil))))) (dRet (dC (.bl false))) (dNext)
def p_law_21 : DS := dAsg (dTup (dCons (dBin (aAdd false) (dC (.int 1)) (dCall f__law_roll (dCons (dVar 1) (dCons (dC (.int 5)) (dNil))))) (dCons (dBin (aAdd false) (dC (.int 1)) (dCall f__law_roll (dCons (dVar 1) (dCons (dC (.int 6)) (dNil))))) (dCons (dCall f__law_roll (dCons (dVar 1) (dCons (dC (.int 20)) (dNil)))) (dNil))))) (dgTup 3 (dgCons (dgName 18) (dgCons (dgName 19) (dgCons (dgName 20) (dgNil)))))
def y_law_16 : DE := dVar 22
def y_law_17 : DE := dVar 7
def p_law_22 : DS := dAsg (dLc false (dRng2 (dVar 20) (dC (.int 45))) (dgName 7) (dAnd (dB (dBin aEq (dBin aMod (dVar 7) (dVar 19)) (dC (.int 0)))) (dB (dBin aEq (dLc false (dRng1 (dVar 18)) (dgName 22) (dB (dBin (aIn true) (dBin (aAdd false) (dVar 7) (dVar 22)) (dVar 5))) y_law_16 [22]) (dLst false (dNil))))) y_law_17 [7]) (dgName 21)
def p_law_23 : DS := dIfS (dB (dBin aNe (dCall f_first_fit (dCons (dVar 2) (dCons (dVar 18) (dCons (dVar 19) (dCons (dVar 20) (dNil)))))) (dBin aIx (dBin (aAdd false) (dVar 21) (dLst false (dCons (dC .non) (dNil)))) (dC (.int 0))))) (dRet (dC (.bl false))) (dNext)
def p_law_24 : DS := dAsg (dTup (dCons (dBin aSub (dCall f__law_roll (dCons (dVar 1) (dCons (dC (.int 9)) (dNil)))) (dC (.int 4))) (dCons (dBin aSub (dCall f__law_roll (dCons (dVar 1) (dCons (dC (.int 7)) (dNil)))) (dC (.int 3))) (dCons (dBin aSub (dCall f__law_roll (dCons (dVar 1) (dCons (dC (.int 7)) (dNil)))) (dC (.int 3))) (dNil))))) (dgTup 3 (dgCons (dgName 23) (dgCons (dgName 24) (dgCons (dgName 25) (dgNil)))))
def y_law_18 : DE := dTup (dCons (dBin aSub (dVar 13) (dVar 24)) (dCons (dBin (aAdd false) (dVar 14) (dVar 25)) (dNil)))
def p_law_25 : DS := dAsg (dLc false (dIt (dVar 2)) (dgTup 2 (dgCons (dgName 13) (dgCons (dgName 14) (dgNil)))) (dB (dBin aLt (dBin aSub (dVar 13) (dVar 24)) (dBin (aAdd false) (dVar 14) (dVar 25)))) y_law_18 [13, 14]) (dgName 26)
def y_law_19 : DE := dTup (dCons (dBin (aAdd false) (dVar 13) (dVar 23)) (dCons (dBin (aAdd false) (dVar 14) (dVar 23)) (dNil)))
def p_law_26 : DS := dIfS (dB (dBin aNe (dCall (bList false) (dCons (dCall f_moved_by (dCons (dVar 2) (dCons (dVar 23) (dNil)))) (dNil))) (dLc false (dIt (dVar 2)) (dgTup 2 (dgCons (dgName 13) (dgCons (dgName 14) (dgNil)))) (dYes) y_law_19 [13, 14]))) (dRet (dC (.bl false))) (dNext)
def y_law_20 : DE := dVar 7
def p_law_27 : DS := dIfS (dB (dBin aNe (dCall (bList false) (dCons (dCall f_wider (dCons (dVar 2) (dCons (dVar 24) (dCons (dVar 25) (dNil))))) (dNil))) (dCall f__law_made (dCons (dLc false (dIt (dVar 4)) (dgName 7) (dTru (dCall f__law_at (dCons (dVar 26) (dCons (dVar 7) (dNil))))) y_law_20 [7]) (dNil))))) (dRet (dC (.bl false))) (dNext)
def p_law_28 : DS := dAsg (dCall f_fewest_points (dCons (dVar 2) (dNil))) (dgName 27)
def y_law_21 : DE := dVar 7
def y_law_22 : DE := dVar 10
def p_law_29 : DS := dIfS (dB (dBin aNe (dLc false (dIt (dVar 2)) (dgName 10) (dB (dBin aEq (dLc false (dIt (dVar 27)) (dgName 7) (dB (dChain aLeT aLt (dBin aIx (dVar 10) (dC (.int 0))) (dVar 7) (dBin aIx (dVar 10) (dC (.int 1))))) y_law_21 [7]) (dLst false (dNil)))) y_law_22 [10]) (dLst false (dNil)))) (dRet (dC (.bl false))) (dNext)
def p_law_30 : DS := dIfS (dB (dBin aNe (dCall (bList false) (dCons (dVar 27) (dNil))) (dCall (bSortedA false) (dCons (dVar 27) (dNil))))) (dRet (dC (.bl false))) (dNext)
def p_law_31 : DS := dPar [28, 29] (dCons (dCall f_most_apart (dCons (dVar 2) (dNil))) (dCons (dC (.int 0)) (dNil)))
def l_law_3 : DS := dAsg (dIf (dNot (dTru (dCall f__law_clash (dCons (dVar 2) (dCons (dVar 10) (dNil)))))) (dCall bMax2 (dCons (dVar 29) (dCons (dCall bLen (dCons (dVar 10) (dNil))) (dNil)))) (dVar 29)) (dgName 29)
def p_law_32 : DS := dFor (dIt (dCall f__law_sets (dCons (dListR1 false (dCall bLen (dCons (dVar 2) (dNil)))) (dNil)))) (dgName 10) l_law_3
def p_law_33 : DS := dIfS (dOr (dB (dBin aNe (dCall bLen (dCons (dVar 28) (dNil))) (dVar 29))) (dOr (dTru (dCall f__law_clash (dCons (dVar 2) (dCons (dVar 28) (dNil))))) (dOr (dB (dBin aNe (dCall bLen (dCons (dVar 27) (dNil))) (dVar 29))) (dB (dBin aNe (dCall (bList false) (dCons (dVar 28) (dNil))) (dCall (bSortedA false) (dCons (dVar 28) (dNil)))))))) (dRet (dC (.bl false))) (dNext)
def l_law_4 : DS := dSeq (p_law_1) (dSeq (p_law_2) (dSeq (p_law_3) (dSeq (p_law_4) (dSeq (p_law_5) (dSeq (p_law_6) (dSeq (p_law_7) (dSeq (p_law_8) (dSeq (p_law_9) (dSeq (p_law_10) (dSeq (p_law_11) (dSeq (p_law_12) (dSeq (p_law_13) (dSeq (p_law_14) (dSeq (p_law_15) (dSeq (p_law_16) (dSeq (p_law_17) (dSeq (p_law_18) (dSeq (p_law_19) (dSeq (p_law_20) (dSeq (p_law_21) (dSeq (p_law_22) (dSeq (p_law_23) (dSeq (p_law_24) (dSeq (p_law_25) (dSeq (p_law_26) (dSeq (p_law_27) (dSeq (p_law_28) (dSeq (p_law_29) (dSeq (p_law_30) (dSeq (p_law_31) (dSeq (p_law_32) (p_law_33))))))))))))))))))))))))))))))))
def b_law : DS := dSeq (dFor (dIt (dCall f__law_rounds (dCons (dVar 0) (dCons (dC (.int 1)) (dNil))))) (dgName 1) l_law_4) (dRet (dCall f__law_plain (dNil)))
def f_law : List D → Store → R D := runB 30 b_law
theorem ok_law (T : Txt g mg) (B : Tbs g mg base) {fa : Addr} {oc kV doc pm cdv ct : Value} {od an : Option Addr} {osl : Array (Option Value)} (lk : g.K.lookup fa = some ⟨oc, od, .func (PySem.W.fnOf "law" "law" (defArgs s_law) (defBody s_law) (defScope s_law) .none kV doc pm an cdv ct), osl⟩) (hcd : PySem.W.codeIn g.K cdv "law" = true) : L2.FnOk P w g.K mg base (L2.CX P w) 17 fa (PySem.W.fnOf "law" "law" (defArgs s_law) (defBody s_law) (defScope s_law) .none kV doc pm an cdv ct) ["script"] (spD g 1 f_law) := by
  have F__law_at := (fn__law_at (P := P) (w := w) (base := base) T B)
  have F__law_clash := (fn__law_clash (P := P) (w := w) (base := base) T B)
  have F__law_lies := (fn__law_lies (P := P) (w := w) (base := base) T B)
  have F__law_made := (fn__law_made (P := P) (w := w) (base := base) T B)
  have F__law_plain := (fn__law_plain (P := P) (w := w) (base := base) T B)
  have F__law_roll := (fn__law_roll (P := P) (w := w) (base := base) T B)
  have F__law_rounds := (fn__law_rounds (P := P) (w := w) (base := base) T B)
  have F__law_rows := (fn__law_rows (P := P) (w := w) (base := base) T B)
  have F__law_sets := (fn__law_sets (P := P) (w := w) (base := base) T B)
  have F_common := (fn_common (P := P) (w := w) (base := base) T B)
  have F_either := (fn_either (P := P) (w := w) (base := base) T B)
  have F_fewest_points := (fn_fewest_points (P := P) (w := w) (base := base) T B)
  have F_first_fit := (fn_first_fit (P := P) (w := w) (base := base) T B)
  have F_gaps_in := (fn_gaps_in (P := P) (w := w) (base := base) T B)
  have F_holds_at := (fn_holds_at (P := P) (w := w) (base := base) T B)
  have F_how_lies := (fn_how_lies (P := P) (w := w) (base := base) T B)
  have F_how_many_at := (fn_how_many_at (P := P) (w := w) (base := base) T B)
  have F_in_at_least := (fn_in_at_least (P := P) (w := w) (base := base) T B)
  have F_joined := (fn_joined (P := P) (w := w) (base := base) T B)
  have F_length_of := (fn_length_of (P := P) (w := w) (base := base) T B)
  have F_most_apart := (fn_most_apart (P := P) (w := w) (base := base) T B)
  have F_most_at_once := (fn_most_at_once (P := P) (w := w) (base := base) T B)
  have F_moved_by := (fn_moved_by (P := P) (w := w) (base := base) T B)
  have F_plain_lies := (fn_plain_lies (P := P) (w := w) (base := base) T B)
  have F_wider := (fn_wider (P := P) (w := w) (base := base) T B)
  have F_without := (fn_without (P := P) (w := w) (base := base) T B)
  refine ok_D lk hcd sc_law rfl fun A outer s H E O => ?_
  exact ss_cons (s_for O (i_seq O (pd_call O F__law_rounds (by decide) (pa_cons (pd_var 0) (pa_cons (pd_int) (pa_nil))) (len_cons_ (len_cons_ (fun _ _ _ _ h => len_nil_ h))))) (g_name 1 O) (ss_cons (s_asg (pd_tup (pa_cons (pd_call O F__law_rows (by decide) (pa_cons (pd_var 1) (pa_nil)) (len_cons_ (fun _ _ _ _ h => len_nil_ h))) (pa_cons (pd_call O F__law_rows (by decide) (pa_cons (pd_var 1) (pa_nil)) (len_cons_ (fun _ _ _ _ h => len_nil_ h))) (pa_nil)))) (g_tup O (gs_cons (g_name 2 O) (gs_cons (g_name 3 O) (gs_nil))))) (ss_cons (s_asg (pd_listR2 (lf := false) O T.n_range T.n_list (pd_neg (pd_int)) (pd_int)) (g_name 4 O)) (ss_cons (s_asg (pd_tup (pa_cons (pd_lc false (own := [(("when" : Str), 7)]) O (i_seq O (pd_var 4)) (blkOk_by (N := ["script", "dice", "one", "other", "times", "mine", "theirs", "when", "start", "end", "row", "two", "counts", "first", "last", "rows", "many", "here", "long", "step", "begin", "able", "k", "by", "ahead", "behind", "wide", "points", "apart", "best"]) (sc := defScope s_law) (by decide +kernel)) (fun _ _ _ _ _ => g_name 7 (O.blk _ _ _ _ _)) (fun _ _ _ _ _ => ts_one (pt_tru (O.blk _ _ _ _ _) (pd_call (O.blk _ _ _ _ _) F__law_at (by decide) (pa_cons (pd_var 2) (pa_cons (pd_var 7) (pa_nil))) (len_cons_ (len_cons_ (fun _ _ _ _ h => len_nil_ h)))))) (fun _ _ _ _ _ => pd_var 7)) (pa_cons (pd_lc false (own := [(("when" : Str), 7)]) O (i_seq O (pd_var 4)) (blkOk_by (N := ["script", "dice", "one", "other", "times", "mine", "theirs", "when", "start", "end", "row", "two", "counts", "first", "last", "rows", "many", "here", "long", "step", "begin", "able", "k", "by", "ahead", "behind", "wide", "points", "apart", "best"]) (sc := defScope s_law) (by decide +kernel)) (fun _ _ _ _ _ => g_name 7 (O.blk _ _ _ _ _)) (fun _ _ _ _ _ => ts_one (pt_tru (O.blk _ _ _ _ _) (pd_call (O.blk _ _ _ _ _) F__law_at (by decide) (pa_cons (pd_var 3) (pa_cons (pd_var 7) (pa_nil))) (len_cons_ (len_cons_ (fun _ _ _ _ h => len_nil_ h)))))) (fun _ _ _ _ _ => pd_var 7)) (pa_nil)))) (g_tup O (gs_cons (g_name 5 O) (gs_cons (g_name 6 O) (gs_nil))))) (ss_cons (s_if (pt_cmp (oNe O) (pd_callT (cList O) T.n_list PyProof.Rows.boot_list (pa_cons (pd_call O F_joined (by decide) (pa_cons (pd_var 2) (pa_nil)) (len_cons_ (fun _ _ _ _ h => len_nil_ h))) (pa_nil))) (pd_call O F__law_made (by decide) (pa_cons (pd_var 5) (pa_nil)) (len_cons_ (fun _ _ _ _ h => len_nil_ h)))) (ss_one (s_ret (pd_bl))) (ss_nil)) (ss_cons (s_if (pt_cmp (oNe O) (pd_callT (cList O) T.n_list PyProof.Rows.boot_list (pa_cons (pd_call O F_common (by decide) (pa_cons (pd_var 2) (pa_cons (pd_var 3) (pa_nil))) (len_cons_ (len_cons_ (fun _ _ _ _ h => len_nil_ h)))) (pa_nil))) (pd_call O F__law_made (by decide) (pa_cons (pd_lc false (own := [(("when" : Str), 7)]) O (i_seq O (pd_var 5)) (blkOk_by (N := ["script", "dice", "one", "other", "times", "mine", "theirs", "when", "start", "end", "row", "two", "counts", "first", "last", "rows", "many", "here", "long", "step", "begin", "able", "k", "by", "ahead", "behind", "wide", "points", "apart", "best"]) (sc := defScope s_law) (by decide +kernel)) (fun _ _ _ _ _ => g_name 7 (O.blk _ _ _ _ _)) (fun _ _ _ _ _ => ts_one (pt_cmp (oIn (O.blk _ _ _ _ _)) (pd_var 7) (pd_var 6))) (fun _ _ _ _ _ => pd_var 7)) (pa_nil)) (len_cons_ (fun _ _ _ _ h => len_nil_ h)))) (ss_one (s_ret (pd_bl))) (ss_nil)) (ss_cons (s_if (pt_cmp (oNe O) (pd_callT (cList O) T.n_list PyProof.Rows.boot_list (pa_cons (pd_call O F_without (by decide) (pa_cons (pd_var 2) (pa_cons (pd_var 3) (pa_nil))) (len_cons_ (len_cons_ (fun _ _ _ _ h => len_nil_ h)))) (pa_nil))) (pd_call O F__law_made (by decide) (pa_cons (pd_lc false (own := [(("when" : Str), 7)]) O (i_seq O (pd_var 5)) (blkOk_by (N := ["script", "dice", "one", "other", "times", "mine", "theirs", "when", "start", "end", "row", "two", "counts", "first", "last", "rows", "many", "here", "long", "step", "begin", "able", "k", "by", "ahead", "behind", "wide", "points", "apart", "best"]) (sc := defScope s_law) (by decide +kernel)) (fun _ _ _ _ _ => g_name 7 (O.blk _ _ _ _ _)) (fun _ _ _ _ _ => ts_one (pt_cmp (oNotIn (O.blk _ _ _ _ _)) (pd_var 7) (pd_var 6))) (fun _ _ _ _ _ => pd_var 7)) (pa_nil)) (len_cons_ (fun _ _ _ _ h => len_nil_ h)))) (ss_one (s_ret (pd_bl))) (ss_nil)) (ss_cons (s_if (pt_cmp (oNe O) (pd_callT (cList O) T.n_list PyProof.Rows.boot_list (pa_cons (pd_call O F_either (by decide) (pa_cons (pd_var 2) (pa_cons (pd_var 3) (pa_nil))) (len_cons_ (len_cons_ (fun _ _ _ _ h => len_nil_ h)))) (pa_nil))) (pd_call O F__law_made (by decide) (pa_cons (pd_lc false (own := [(("when" : Str), 7)]) O (i_seq O (pd_var 4)) (blkOk_by (N := ["script", "dice", "one", "other", "times", "mine", "theirs", "when", "start", "end", "row", "two", "counts", "first", "last", "rows", "many", "here", "long", "step", "begin", "able", "k", "by", "ahead", "behind", "wide", "points", "apart", "best"]) (sc := defScope s_law) (by decide +kernel)) (fun _ _ _ _ _ => g_name 7 (O.blk _ _ _ _ _)) (fun _ _ _ _ _ => ts_one (pt_cmp (oNe (O.blk _ _ _ _ _)) (pd_cmp (oIn (O.blk _ _ _ _ _)) (pd_var 7) (pd_var 5)) (pd_cmp (oIn (O.blk _ _ _ _ _)) (pd_var 7) (pd_var 6)))) (fun _ _ _ _ _ => pd_var 7)) (pa_nil)) (len_cons_ (fun _ _ _ _ h => len_nil_ h)))) (ss_one (s_ret (pd_bl))) (ss_nil)) (ss_cons (s_if (pt_cmp (oNe O) (pd_call O F_length_of (by decide) (pa_cons (pd_var 2) (pa_nil)) (len_cons_ (fun _ _ _ _ h => len_nil_ h))) (pd_callB (cLen O) T.n_len PySem.boot_len (pa_cons (pd_var 5) (pa_nil)))) (ss_one (s_ret (pd_bl))) (ss_nil)) (ss_cons (s_asg (pd_call O F__law_roll (by decide) (pa_cons (pd_var 1) (pa_cons (pd_int) (pa_nil))) (len_cons_ (len_cons_ (fun _ _ _ _ h => len_nil_ h)))) (g_name 8 O)) (ss_cons (s_asg (pd_bin (oAdd O) (pd_bin (oAdd O) (pd_var 8) (pd_int)) (pd_call O F__law_roll (by decide) (pa_cons (pd_var 1) (pa_cons (pd_int) (pa_nil))) (len_cons_ (len_cons_ (fun _ _ _ _ h => len_nil_ h))))) (g_name 9 O)) (ss_cons (s_if (pt_cmp (oNe O) (pd_callT (cList O) T.n_list PyProof.Rows.boot_list (pa_cons (pd_call O F_gaps_in (by decide) (pa_cons (pd_var 2) (pa_cons (pd_var 8) (pa_cons (pd_var 9) (pa_nil)))) (len_cons_ (len_cons_ (len_cons_ (fun _ _ _ _ h => len_nil_ h))))) (pa_nil))) (pd_call O F__law_made (by decide) (pa_cons (pd_lc false (own := [(("when" : Str), 7)]) O (i_range2 T.n_range (pd_var 8) (pd_var 9)) (blkOk_by (N := ["script", "dice", "one", "other", "times", "mine", "theirs", "when", "start", "end", "row", "two", "counts", "first", "last", "rows", "many", "here", "long", "step", "begin", "able", "k", "by", "ahead", "behind", "wide", "points", "apart", "best"]) (sc := defScope s_law) (by decide +kernel)) (fun _ _ _ _ _ => g_name 7 (O.blk _ _ _ _ _)) (fun _ _ _ _ _ => ts_one (pt_cmp (oNotIn (O.blk _ _ _ _ _)) (pd_var 7) (pd_var 5))) (fun _ _ _ _ _ => pd_var 7)) (pa_nil)) (len_cons_ (fun _ _ _ _ h => len_nil_ h)))) (ss_one (s_ret (pd_bl))) (ss_nil)) (ss_cons (s_if (pt_cmp (oNe O) (pd_lc false (own := [(("when" : Str), 7)]) O (i_seq O (pd_var 4)) (blkOk_by (N := ["script", "dice", "one", "other", "times", "mine", "theirs", "when", "start", "end", "row", "two", "counts", "first", "last", "rows", "many", "here", "long", "step", "begin", "able", "k", "by", "ahead", "behind", "wide", "points", "apart", "best"]) (sc := defScope s_law) (by decide +kernel)) (fun _ _ _ _ _ => g_name 7 (O.blk _ _ _ _ _)) (fun _ _ _ _ _ => ts_nil) (fun _ _ _ _ _ => pd_call (O.blk _ _ _ _ _) F_holds_at (by decide) (pa_cons (pd_var 2) (pa_cons (pd_var 7) (pa_nil))) (len_cons_ (len_cons_ (fun _ _ _ _ h => len_nil_ h))))) (pd_lc false (own := [(("when" : Str), 7)]) O (i_seq O (pd_var 4)) (blkOk_by (N := ["script", "dice", "one", "other", "times", "mine", "theirs", "when", "start", "end", "row", "two", "counts", "first", "last", "rows", "many", "here", "long", "step", "begin", "able", "k", "by", "ahead", "behind", "wide", "points", "apart", "best"]) (sc := defScope s_law) (by decide +kernel)) (fun _ _ _ _ _ => g_name 7 (O.blk _ _ _ _ _)) (fun _ _ _ _ _ => ts_nil) (fun _ _ _ _ _ => pd_cmp (oIn (O.blk _ _ _ _ _)) (pd_var 7) (pd_var 5)))) (ss_one (s_ret (pd_bl))) (ss_nil)) (ss_cons (s_for O (i_seq O (pd_var 2)) (g_name 10 O) (ss_one (s_for O (i_seq O (pd_var 3)) (g_name 11 O) (ss_cons (s_if (pt_cmp (oNe O) (pd_call O F_how_lies (by decide) (pa_cons (pd_var 10) (pa_cons (pd_var 11) (pa_nil))) (len_cons_ (len_cons_ (fun _ _ _ _ h => len_nil_ h)))) (pd_call O F__law_lies (by decide) (pa_cons (pd_var 10) (pa_cons (pd_var 11) (pa_nil))) (len_cons_ (len_cons_ (fun _ _ _ _ h => len_nil_ h))))) (ss_one (s_ret (pd_bl))) (ss_nil)) (ss_one (s_if (pt_cmp (oNe O) (pd_cmp oIsN (pd_call O F_plain_lies (by decide) (pa_cons (pd_var 10) (pa_cons (pd_var 11) (pa_nil))) (len_cons_ (len_cons_ (fun _ _ _ _ h => len_nil_ h)))) (pd_non)) (pd_ix O (pd_call O F__law_lies (by decide) (pa_cons (pd_var 10) (pa_cons (pd_var 11) (pa_nil))) (len_cons_ (len_cons_ (fun _ _ _ _ h => len_nil_ h)))) (pd_int))) (ss_one (s_ret (pd_bl))) (ss_nil))))))) (ss_cons (s_lc (i := 12) false (own := [(("when" : Str), 7)]) O (i_seq O (pd_var 4)) (blkOk_by (N := ["script", "dice", "one", "other", "times", "mine", "theirs", "when", "start", "end", "row", "two", "counts", "first", "last", "rows", "many", "here", "long", "step", "begin", "able", "k", "by", "ahead", "behind", "wide", "points", "apart", "best"]) (sc := defScope s_law) (by decide +kernel)) (fun _ _ _ _ _ => g_name 7 (O.blk _ _ _ _ _)) (fun _ _ _ _ _ => ts_nil) (fun _ _ _ _ _ => pd_callB (cLen (O.blk _ _ _ _ _)) T.n_len PySem.boot_len (pa_cons (pd_lc false (own := [(("first" : Str), 13), (("last" : Str), 14)]) (O.blk _ _ _ _ _) (i_seq (O.blk _ _ _ _ _) (pd_var 2)) (by refine blkOk_by (N := ["script", "dice", "one", "other", "times", "mine", "theirs", "when", "start", "end", "row", "two", "counts", "first", "last", "rows", "many", "here", "long", "step", "begin", "able", "k", "by", "ahead", "behind", "wide", "points", "apart", "best"]) ?_; simp only [L2.Cx.blk, compEnvC, relabel_eq]; show L2.blkC _ (relS (defScope s_law) _) _ _ = true; decide +kernel) (fun _ _ _ _ _ => g_tup ((O.blk _ _ _ _ _).blk _ _ _ _ _) (gs_cons (g_name 13 ((O.blk _ _ _ _ _).blk _ _ _ _ _)) (gs_cons (g_name 14 ((O.blk _ _ _ _ _).blk _ _ _ _ _)) (gs_nil)))) (fun _ _ _ _ _ => ts_one (pt_chain (oLeT ((O.blk _ _ _ _ _).blk _ _ _ _ _)) (oLt ((O.blk _ _ _ _ _).blk _ _ _ _ _)) (pd_var 13) (pd_var 7) (pd_var 14))) (fun _ _ _ _ _ => pd_int)) (pa_nil))) (sw_true rfl rfl rfl (by decide +kernel))) (ss_cons (s_asg (pd_tup (pa_cons (pd_call O F_how_many_at (by decide) (pa_cons (pd_var 2) (pa_nil)) (len_cons_ (fun _ _ _ _ h => len_nil_ h))) (pa_cons (pd_bin (oAdd O) (pd_int) (pd_call O F__law_roll (by decide) (pa_cons (pd_var 1) (pa_cons (pd_int) (pa_nil))) (len_cons_ (len_cons_ (fun _ _ _ _ h => len_nil_ h))))) (pa_nil)))) (g_tup O (gs_cons (g_name 15 O) (gs_cons (g_name 16 O) (gs_nil))))) (ss_cons (s_if (pt_cmp (oNe O) (pd_lc false (own := [(("when" : Str), 7)]) O (i_seq O (pd_var 4)) (blkOk_by (N := ["script", "dice", "one", "other", "times", "mine", "theirs", "when", "start", "end", "row", "two", "counts", "first", "last", "rows", "many", "here", "long", "step", "begin", "able", "k", "by", "ahead", "behind", "wide", "points", "apart", "best"]) (sc := defScope s_law) (by decide +kernel)) (fun _ _ _ _ _ => g_name 7 (O.blk _ _ _ _ _)) (fun _ _ _ _ _ => ts_nil) (fun _ _ _ _ _ => pd_callB (cSum (O.blk _ _ _ _ _)) T.n_sum PyProof.Rows.boot_sum (pa_cons (pd_lc false (own := [(("row" : Str), 10)]) (O.blk _ _ _ _ _) (i_seq (O.blk _ _ _ _ _) (pd_var 15)) (by refine blkOk_by (N := ["script", "dice", "one", "other", "times", "mine", "theirs", "when", "start", "end", "row", "two", "counts", "first", "last", "rows", "many", "here", "long", "step", "begin", "able", "k", "by", "ahead", "behind", "wide", "points", "apart", "best"]) ?_; simp only [L2.Cx.blk, compEnvC, relabel_eq]; show L2.blkC _ (relS (defScope s_law) _) _ _ = true; decide +kernel) (fun _ _ _ _ _ => g_name 10 ((O.blk _ _ _ _ _).blk _ _ _ _ _)) (fun _ _ _ _ _ => ts_one (pt_chain (oLeT ((O.blk _ _ _ _ _).blk _ _ _ _ _)) (oLt ((O.blk _ _ _ _ _).blk _ _ _ _ _)) (pd_ix ((O.blk _ _ _ _ _).blk _ _ _ _ _) (pd_var 10) (pd_int)) (pd_var 7) (pd_ix ((O.blk _ _ _ _ _).blk _ _ _ _ _) (pd_var 10) (pd_int)))) (fun _ _ _ _ _ => pd_ix ((O.blk _ _ _ _ _).blk _ _ _ _ _) (pd_var 10) (pd_int))) (pa_nil)))) (pd_var 12)) (ss_one (s_ret (pd_bl))) (ss_nil)) (ss_cons (s_if (pt_cmp (oNe O) (pd_lc false (own := [(("row" : Str), 10), (("two" : Str), 11)]) O (i_zip O T.n_zip (pd_var 15) (pd_slice false O (pd_var 15) (po_some (pd_int)) (po_none))) (blkOk_by (N := ["script", "dice", "one", "other", "times", "mine", "theirs", "when", "start", "end", "row", "two", "counts", "first", "last", "rows", "many", "here", "long", "step", "begin", "able", "k", "by", "ahead", "behind", "wide", "points", "apart", "best"]) (sc := defScope s_law) (by decide +kernel)) (fun _ _ _ _ _ => g_tup (O.blk _ _ _ _ _) (gs_cons (g_name 10 (O.blk _ _ _ _ _)) (gs_cons (g_name 11 (O.blk _ _ _ _ _)) (gs_nil)))) (fun _ _ _ _ _ => ts_one (pt_w (pw_or (pt_cmp oGt (pd_ix (O.blk _ _ _ _ _) (pd_var 10) (pd_int)) (pd_ix (O.blk _ _ _ _ _) (pd_var 11) (pd_int))) (pw_or1 (pt_w (pw_and (pt_cmp (oEq (O.blk _ _ _ _ _)) (pd_ix (O.blk _ _ _ _ _) (pd_var 10) (pd_int)) (pd_ix (O.blk _ _ _ _ _) (pd_var 11) (pd_int))) (pw_and1 (pt_cmp (oEq (O.blk _ _ _ _ _)) (pd_ix (O.blk _ _ _ _ _) (pd_var 10) (pd_int)) (pd_ix (O.blk _ _ _ _ _) (pd_var 11) (pd_int)))))))))) (fun _ _ _ _ _ => pd_int)) (pd_lst false (pa_nil))) (ss_one (s_ret (pd_bl))) (ss_nil)) (ss_cons (s_if (pt_cmp (oNe O) (pd_lc false (own := [(("row" : Str), 10)]) O (i_seq O (pd_var 15)) (blkOk_by (N := ["script", "dice", "one", "other", "times", "mine", "theirs", "when", "start", "end", "row", "two", "counts", "first", "last", "rows", "many", "here", "long", "step", "begin", "able", "k", "by", "ahead", "behind", "wide", "points", "apart", "best"]) (sc := defScope s_law) (by decide +kernel)) (fun _ _ _ _ _ => g_name 10 (O.blk _ _ _ _ _)) (fun _ _ _ _ _ => ts_one (pt_cmp (oLt (O.blk _ _ _ _ _)) (pd_ix (O.blk _ _ _ _ _) (pd_var 10) (pd_int)) (pd_int))) (fun _ _ _ _ _ => pd_var 10)) (pd_lst false (pa_nil))) (ss_one (s_ret (pd_bl))) (ss_nil)) (ss_cons (s_if (pt_cmp (oNe O) (pd_call O F_most_at_once (by decide) (pa_cons (pd_var 2) (pa_nil)) (len_cons_ (fun _ _ _ _ h => len_nil_ h))) (pd_callB (cMaxA O) T.n_max PyProof.Rows.boot_max (pa_cons (pd_var 12) (pa_nil)))) (ss_one (s_ret (pd_bl))) (ss_nil)) (ss_cons (s_if (pt_cmp (oNe O) (pd_callT (cList O) T.n_list PyProof.Rows.boot_list (pa_cons (pd_call O F_in_at_least (by decide) (pa_cons (pd_var 2) (pa_cons (pd_var 16) (pa_nil))) (len_cons_ (len_cons_ (fun _ _ _ _ h => len_nil_ h)))) (pa_nil))) (pd_call O F__law_made (by decide) (pa_cons (pd_lc false (own := [(("when" : Str), 7), (("here" : Str), 17)]) O (i_zip O T.n_zip (pd_var 4) (pd_var 12)) (blkOk_by (N := ["script", "dice", "one", "other", "times", "mine", "theirs", "when", "start", "end", "row", "two", "counts", "first", "last", "rows", "many", "here", "long", "step", "begin", "able", "k", "by", "ahead", "behind", "wide", "points", "apart", "best"]) (sc := defScope s_law) (by decide +kernel)) (fun _ _ _ _ _ => g_tup (O.blk _ _ _ _ _) (gs_cons (g_name 7 (O.blk _ _ _ _ _)) (gs_cons (g_name 17 (O.blk _ _ _ _ _)) (gs_nil)))) (fun _ _ _ _ _ => ts_one (pt_cmp oGe (pd_var 17) (pd_var 16))) (fun _ _ _ _ _ => pd_var 7)) (pa_nil)) (len_cons_ (fun _ _ _ _ h => len_nil_ h)))) (ss_one (s_ret (pd_bl))) (ss_nil)) (ss_cons (s_asg (pd_tup (pa_cons (pd_bin (oAdd O) (pd_int) (pd_call O F__law_roll (by decide) (pa_cons (pd_var 1) (pa_cons (pd_int) (pa_nil))) (len_cons_ (len_cons_ (fun _ _ _ _ h => len_nil_ h))))) (pa_cons (pd_bin (oAdd O) (pd_int) (pd_call O F__law_roll (by decide) (pa_cons (pd_var 1) (pa_cons (pd_int) (pa_nil))) (len_cons_ (len_cons_ (fun _ _ _ _ h => len_nil_ h))))) (pa_cons (pd_call O F__law_roll (by decide) (pa_cons (pd_var 1) (pa_cons (pd_int) (pa_nil))) (len_cons_ (len_cons_ (fun _ _ _ _ h => len_nil_ h)))) (pa_nil))))) (g_tup O (gs_cons (g_name 18 O) (gs_cons (g_name 19 O) (gs_cons (g_name 20 O) (gs_nil)))))) (ss_cons (s_lc (i := 21) false (own := [(("when" : Str), 7)]) O (i_range2 T.n_range (pd_var 20) (pd_int)) (blkOk_by (N := ["script", "dice", "one", "other", "times", "mine", "theirs", "when", "start", "end", "row", "two", "counts", "first", "last", "rows", "many", "here", "long", "step", "begin", "able", "k", "by", "ahead", "behind", "wide", "points", "apart", "best"]) (sc := defScope s_law) (by decide +kernel)) (fun _ _ _ _ _ => g_name 7 (O.blk _ _ _ _ _)) (fun _ _ _ _ _ => ts_one (pt_w (pw_and (pt_cmp (oEq (O.blk _ _ _ _ _)) (pd_bin oMod (pd_var 7) (pd_var 19)) (pd_int)) (pw_and1 (pt_cmp (oEq (O.blk _ _ _ _ _)) (pd_lc false (own := [(("k" : Str), 22)]) (O.blk _ _ _ _ _) (i_range1 T.n_range (pd_var 18)) (by refine blkOk_by (N := ["script", "dice", "one", "other", "times", "mine", "theirs", "when", "start", "end", "row", "two", "counts", "first", "last", "rows", "many", "here", "long", "step", "begin", "able", "k", "by", "ahead", "behind", "wide", "points", "apart", "best"]) ?_; simp only [L2.Cx.blk, compEnvC, relabel_eq]; show L2.blkC _ (relS (defScope s_law) _) _ _ = true; decide +kernel) (fun _ _ _ _ _ => g_name 22 ((O.blk _ _ _ _ _).blk _ _ _ _ _)) (fun _ _ _ _ _ => ts_one (pt_cmp (oNotIn ((O.blk _ _ _ _ _).blk _ _ _ _ _)) (pd_bin (oAdd ((O.blk _ _ _ _ _).blk _ _ _ _ _)) (pd_var 7) (pd_var 22)) (pd_var 5))) (fun _ _ _ _ _ => pd_var 22)) (pd_lst false (pa_nil))))))) (fun _ _ _ _ _ => pd_var 7) (sw_true rfl rfl rfl (by decide +kernel))) (ss_cons (s_if (pt_cmp (oNe O) (pd_call O F_first_fit (by decide) (pa_cons (pd_var 2) (pa_cons (pd_var 18) (pa_cons (pd_var 19) (pa_cons (pd_var 20) (pa_nil))))) (len_cons_ (len_cons_ (len_cons_ (len_cons_ (fun _ _ _ _ h => len_nil_ h)))))) (pd_ix O (pd_bin (oAdd O) (pd_var 21) (pd_lst false (pa_cons (pd_non) (pa_nil)))) (pd_int))) (ss_one (s_ret (pd_bl))) (ss_nil)) (ss_cons (s_asg (pd_tup (pa_cons (pd_bin oSub (pd_call O F__law_roll (by decide) (pa_cons (pd_var 1) (pa_cons (pd_int) (pa_nil))) (len_cons_ (len_cons_ (fun _ _ _ _ h => len_nil_ h)))) (pd_int)) (pa_cons (pd_bin oSub (pd_call O F__law_roll (by decide) (pa_cons (pd_var 1) (pa_cons (pd_int) (pa_nil))) (len_cons_ (len_cons_ (fun _ _ _ _ h => len_nil_ h)))) (pd_int)) (pa_cons (pd_bin oSub (pd_call O F__law_roll (by decide) (pa_cons (pd_var 1) (pa_cons (pd_int) (pa_nil))) (len_cons_ (len_cons_ (fun _ _ _ _ h => len_nil_ h)))) (pd_int)) (pa_nil))))) (g_tup O (gs_cons (g_name 23 O) (gs_cons (g_name 24 O) (gs_cons (g_name 25 O) (gs_nil)))))) (ss_cons (s_asg (pd_lc false (own := [(("first" : Str), 13), (("last" : Str), 14)]) O (i_seq O (pd_var 2)) (blkOk_by (N := ["script", "dice", "one", "other", "times", "mine", "theirs", "when", "start", "end", "row", "two", "counts", "first", "last", "rows", "many", "here", "long", "step", "begin", "able", "k", "by", "ahead", "behind", "wide", "points", "apart", "best"]) (sc := defScope s_law) (by decide +kernel)) (fun _ _ _ _ _ => g_tup (O.blk _ _ _ _ _) (gs_cons (g_name 13 (O.blk _ _ _ _ _)) (gs_cons (g_name 14 (O.blk _ _ _ _ _)) (gs_nil)))) (fun _ _ _ _ _ => ts_one (pt_cmp (oLt (O.blk _ _ _ _ _)) (pd_bin oSub (pd_var 13) (pd_var 24)) (pd_bin (oAdd (O.blk _ _ _ _ _)) (pd_var 14) (pd_var 25)))) (fun _ _ _ _ _ => pd_tup (pa_cons (pd_bin oSub (pd_var 13) (pd_var 24)) (pa_cons (pd_bin (oAdd (O.blk _ _ _ _ _)) (pd_var 14) (pd_var 25)) (pa_nil))))) (g_name 26 O)) (ss_cons (s_if (pt_cmp (oNe O) (pd_callT (cList O) T.n_list PyProof.Rows.boot_list (pa_cons (pd_call O F_moved_by (by decide) (pa_cons (pd_var 2) (pa_cons (pd_var 23) (pa_nil))) (len_cons_ (len_cons_ (fun _ _ _ _ h => len_nil_ h)))) (pa_nil))) (pd_lc false (own := [(("first" : Str), 13), (("last" : Str), 14)]) O (i_seq O (pd_var 2)) (blkOk_by (N := ["script", "dice", "one", "other", "times", "mine", "theirs", "when", "start", "end", "row", "two", "counts", "first", "last", "rows", "many", "here", "long", "step", "begin", "able", "k", "by", "ahead", "behind", "wide", "points", "apart", "best"]) (sc := defScope s_law) (by decide +kernel)) (fun _ _ _ _ _ => g_tup (O.blk _ _ _ _ _) (gs_cons (g_name 13 (O.blk _ _ _ _ _)) (gs_cons (g_name 14 (O.blk _ _ _ _ _)) (gs_nil)))) (fun _ _ _ _ _ => ts_nil) (fun _ _ _ _ _ => pd_tup (pa_cons (pd_bin (oAdd (O.blk _ _ _ _ _)) (pd_var 13) (pd_var 23)) (pa_cons (pd_bin (oAdd (O.blk _ _ _ _ _)) (pd_var 14) (pd_var 23)) (pa_nil)))))) (ss_one (s_ret (pd_bl))) (ss_nil)) (ss_cons (s_if (pt_cmp (oNe O) (pd_callT (cList O) T.n_list PyProof.Rows.boot_list (pa_cons (pd_call O F_wider (by decide) (pa_cons (pd_var 2) (pa_cons (pd_var 24) (pa_cons (pd_var 25) (pa_nil)))) (len_cons_ (len_cons_ (len_cons_ (fun _ _ _ _ h => len_nil_ h))))) (pa_nil))) (pd_call O F__law_made (by decide) (pa_cons (pd_lc false (own := [(("when" : Str), 7)]) O (i_seq O (pd_var 4)) (blkOk_by (N := ["script", "dice", "one", "other", "times", "mine", "theirs", "when", "start", "end", "row", "two", "counts", "first", "last", "rows", "many", "here", "long", "step", "begin", "able", "k", "by", "ahead", "behind", "wide", "points", "apart", "best"]) (sc := defScope s_law) (by decide +kernel)) (fun _ _ _ _ _ => g_name 7 (O.blk _ _ _ _ _)) (fun _ _ _ _ _ => ts_one (pt_tru (O.blk _ _ _ _ _) (pd_call (O.blk _ _ _ _ _) F__law_at (by decide) (pa_cons (pd_var 26) (pa_cons (pd_var 7) (pa_nil))) (len_cons_ (len_cons_ (fun _ _ _ _ h => len_nil_ h)))))) (fun _ _ _ _ _ => pd_var 7)) (pa_nil)) (len_cons_ (fun _ _ _ _ h => len_nil_ h)))) (ss_one (s_ret (pd_bl))) (ss_nil)) (ss_cons (s_asg (pd_call O F_fewest_points (by decide) (pa_cons (pd_var 2) (pa_nil)) (len_cons_ (fun _ _ _ _ h => len_nil_ h))) (g_name 27 O)) (ss_cons (s_if (pt_cmp (oNe O) (pd_lc false (own := [(("row" : Str), 10)]) O (i_seq O (pd_var 2)) (blkOk_by (N := ["script", "dice", "one", "other", "times", "mine", "theirs", "when", "start", "end", "row", "two", "counts", "first", "last", "rows", "many", "here", "long", "step", "begin", "able", "k", "by", "ahead", "behind", "wide", "points", "apart", "best"]) (sc := defScope s_law) (by decide +kernel)) (fun _ _ _ _ _ => g_name 10 (O.blk _ _ _ _ _)) (fun _ _ _ _ _ => ts_one (pt_cmp (oEq (O.blk _ _ _ _ _)) (pd_lc false (own := [(("when" : Str), 7)]) (O.blk _ _ _ _ _) (i_seq (O.blk _ _ _ _ _) (pd_var 27)) (by refine blkOk_by (N := ["script", "dice", "one", "other", "times", "mine", "theirs", "when", "start", "end", "row", "two", "counts", "first", "last", "rows", "many", "here", "long", "step", "begin", "able", "k", "by", "ahead", "behind", "wide", "points", "apart", "best"]) ?_; simp only [L2.Cx.blk, compEnvC, relabel_eq]; show L2.blkC _ (relS (defScope s_law) _) _ _ = true; decide +kernel) (fun _ _ _ _ _ => g_name 7 ((O.blk _ _ _ _ _).blk _ _ _ _ _)) (fun _ _ _ _ _ => ts_one (pt_chain (oLeT ((O.blk _ _ _ _ _).blk _ _ _ _ _)) (oLt ((O.blk _ _ _ _ _).blk _ _ _ _ _)) (pd_ix ((O.blk _ _ _ _ _).blk _ _ _ _ _) (pd_var 10) (pd_int)) (pd_var 7) (pd_ix ((O.blk _ _ _ _ _).blk _ _ _ _ _) (pd_var 10) (pd_int)))) (fun _ _ _ _ _ => pd_var 7)) (pd_lst false (pa_nil)))) (fun _ _ _ _ _ => pd_var 10)) (pd_lst false (pa_nil))) (ss_one (s_ret (pd_bl))) (ss_nil)) (ss_cons (s_if (pt_cmp (oNe O) (pd_callT (cList O) T.n_list PyProof.Rows.boot_list (pa_cons (pd_var 27) (pa_nil))) (pd_callB (cSortedA (b := false) O) T.n_sorted PyProof.Rows.boot_sorted (pa_cons (pd_var 27) (pa_nil)))) (ss_one (s_ret (pd_bl))) (ss_nil)) (ss_cons (s_par (i := 28) (j := 29) O (pa_cons (pd_call O F_most_apart (by decide) (pa_cons (pd_var 2) (pa_nil)) (len_cons_ (fun _ _ _ _ h => len_nil_ h))) (pa_cons (pd_int) (pa_nil)))) (ss_cons (s_for O (i_seq O (pd_call O F__law_sets (by decide) (pa_cons (pd_listR1 (lf := false) O T.n_range T.n_list (pd_callB (cLen O) T.n_len PySem.boot_len (pa_cons (pd_var 2) (pa_nil)))) (pa_nil)) (len_cons_ (fun _ _ _ _ h => len_nil_ h)))) (g_name 10 O) (ss_one (s_asg (pd_if (pt_not (pt_tru O (pd_call O F__law_clash (by decide) (pa_cons (pd_var 2) (pa_cons (pd_var 10) (pa_nil))) (len_cons_ (len_cons_ (fun _ _ _ _ h => len_nil_ h)))))) (pd_callB (cMax2 O) T.n_max PyProof.Rows.boot_max (pa_cons (pd_var 29) (pa_cons (pd_callB (cLen O) T.n_len PySem.boot_len (pa_cons (pd_var 10) (pa_nil))) (pa_nil)))) (pd_var 29)) (g_name 29 O)))) (ss_one (s_if (pt_w (pw_or (pt_cmp (oNe O) (pd_callB (cLen O) T.n_len PySem.boot_len (pa_cons (pd_var 28) (pa_nil))) (pd_var 29)) (pw_or (pt_tru O (pd_call O F__law_clash (by decide) (pa_cons (pd_var 2) (pa_cons (pd_var 28) (pa_nil))) (len_cons_ (len_cons_ (fun _ _ _ _ h => len_nil_ h))))) (pw_or (pt_cmp (oNe O) (pd_callB (cLen O) T.n_len PySem.boot_len (pa_cons (pd_var 27) (pa_nil))) (pd_var 29)) (pw_or1 (pt_cmp (oNe O) (pd_callT (cList O) T.n_list PyProof.Rows.boot_list (pa_cons (pd_var 28) (pa_nil))) (pd_callB (cSortedA (b := false) O) T.n_sorted PyProof.Rows.boot_sorted (pa_cons (pd_var 28) (pa_nil))))))))) (ss_one (s_ret (pd_bl))) (ss_nil)))))))))))))))))))))))))))))))))))) (ss_one (s_ret (pd_call0 O F__law_plain (by decide))))
end
end K04

namespace K04
open PySem G
abbrev Rw := Int × Int
def inR (p : Rw) (t : Int) : Bool := decide (p.1 ≤ t) && decide (t < p.2)
def atR (l : List Rw) (t : Int) : Bool := l.any fun p => inR p t
def N (l : List Rw) : Prop := (∀ p ∈ l, p.1 < p.2) ∧ l.Pairwise fun p q => p.2 < q.1
theorem inR_iff {p : Rw} {t : Int} : inR p t = true ↔ p.1 ≤ t ∧ t < p.2 := by
  unfold inR
  rw [Bool.and_eq_true, decide_eq_true_eq, decide_eq_true_eq]
theorem atR_iff {l : List Rw} {t : Int} : atR l t = true ↔ ∃ p ∈ l, p.1 ≤ t ∧ t < p.2 := by
  unfold atR
  rw [List.any_eq_true]
  exact ⟨fun ⟨p, h1, h2⟩ => ⟨p, h1, inR_iff.mp h2⟩, fun ⟨p, h1, h2⟩ => ⟨p, h1, inR_iff.mpr h2⟩⟩
theorem atR_app (l m : List Rw) (t : Int) : atR (l ++ m) t = (atR l t || atR m t) := by
  unfold atR
  rw [List.any_append]
theorem atR_cons (p : Rw) (m : List Rw) (t : Int) : atR (p :: m) t = (inR p t || atR m t) := rfl
theorem N_nil : N [] := ⟨(fun _ h => by cases h), .nil⟩
theorem N_tail {p : Rw} {l : List Rw} (h : N (p :: l)) : N l := ⟨fun q hq => h.1 q (List.mem_cons_of_mem _ hq), (List.pairwise_cons.mp h.2).2⟩
/-- two normal rows with the same times are one -/
theorem N_uniq : ∀ {l m : List Rw}, N l → N m → (∀ t, atR l t = atR m t) → l = m
  | [], [], _, _, _ => rfl
  | [], q :: m, _, hm, h => by
    have h1 := hm.1 q List.mem_cons_self
    have := h q.1
    rw [show atR [] q.1 = false from rfl, atR_cons, inR_iff.mpr ⟨Int.le_refl _, h1⟩] at this
    cases this
  | p :: l, [], hl, _, h => by
    have h1 := hl.1 p List.mem_cons_self
    have := h p.1
    rw [show atR [] p.1 = false from rfl, atR_cons, inR_iff.mpr ⟨Int.le_refl _, h1⟩] at this
    cases this
  | p :: l, q :: m, hl, hm, h => by
    have p1 := hl.1 p List.mem_cons_self
    have q1 := hm.1 q List.mem_cons_self
    have p2 := (List.pairwise_cons.mp hl.2).1
    have q2 := (List.pairwise_cons.mp hm.2).1
    have low : ∀ {r : Rw} {k : List Rw}, (∀ z ∈ k, r.2 < z.1) → r.1 < r.2 → ∀ t, atR (r :: k) t = true → r.1 ≤ t := fun hk hr t ht => by
      obtain ⟨z, hz, z1, z2⟩ := atR_iff.mp ht
      rcases List.mem_cons.mp hz with rfl | hz
      · exact z1
      · have := hk z hz; omega
    have e1 : p.1 = q.1 := by
      have a := low q2 q1 p.1 (by rw [← h p.1]; exact atR_iff.mpr ⟨p, List.mem_cons_self, Int.le_refl _, p1⟩)
      have b := low p2 p1 q.1 (by rw [h q.1]; exact atR_iff.mpr ⟨q, List.mem_cons_self, Int.le_refl _, q1⟩)
      omega
    have noend : ∀ {r : Rw} {k : List Rw}, (∀ z ∈ k, r.2 < z.1) → atR (r :: k) r.2 = false := fun hk => by
      rw [Bool.eq_false_iff]
      intro ht
      obtain ⟨z, hz, z1, z2⟩ := atR_iff.mp ht
      rcases List.mem_cons.mp hz with rfl | hz
      · omega
      · have := hk z hz; omega
    have e2 : p.2 = q.2 := by
      by_cases c1 : p.2 < q.2
      · have := noend p2
        rw [h p.2, atR_iff.mpr ⟨q, List.mem_cons_self, by omega, c1⟩] at this
        cases this
      · by_cases c2 : q.2 < p.2
        · have := noend q2
          rw [← h q.2, atR_iff.mpr ⟨p, List.mem_cons_self, by omega, c2⟩] at this
          cases this
        · omega
    have e : p = q := Prod.ext e1 e2
    subst e
    rw [N_uniq (N_tail hl) (N_tail hm) fun t => ?_]
    have ht := h t
    rw [atR_cons, atR_cons] at ht
    by_cases c : inR p t = true
    · have c' := inR_iff.mp c
      have no : ∀ {k : List Rw}, (∀ z ∈ k, p.2 < z.1) → atR k t = false := fun hk => by
        rw [Bool.eq_false_iff]
        intro hx
        obtain ⟨z, hz, z1, z2⟩ := atR_iff.mp hx
        have := hk z hz
        omega
      rw [no p2, no q2]
    · rw [Bool.not_eq_true] at c
      rw [c, Bool.false_or, Bool.false_or] at ht
      exact ht
/-! ### put together -/
def step (acc : List Rw) (r : Rw) : List Rw := match acc.getLast? with
  | some q => if r.1 ≤ q.2 then acc.dropLast ++ [(q.1, max q.2 r.2)] else acc ++ [r]
  | none => [r]
def joinI (l : List Rw) : List Rw := (sortP l).foldl step []
def Vl (l : List Rw) : Prop := ∀ p ∈ l, p.1 < p.2
theorem N_snoc {A : List Rw} {r : Rw} (h : N A) (hr : r.1 < r.2) (hA : ∀ p ∈ A, p.2 < r.1) : N (A ++ [r]) := by
  refine ⟨fun p hp => ?_, ?_⟩
  · rcases List.mem_append.mp hp with hp | hp
    · exact h.1 p hp
    · rw [List.mem_singleton.mp hp]; exact hr
  · rw [List.pairwise_append]
    exact ⟨h.2, List.pairwise_singleton _ _, fun p hp q hq => by rw [List.mem_singleton.mp hq]; exact hA p hp⟩
theorem N_front {A : List Rw} {r : Rw} (h : N (A ++ [r])) : N A ∧ r.1 < r.2 ∧ ∀ p ∈ A, p.2 < r.1 :=
  ⟨⟨fun p hp => h.1 p (List.mem_append_left _ hp), (List.pairwise_append.mp h.2).1⟩, h.1 r (List.mem_append_right _ List.mem_cons_self), fun p hp => (List.pairwise_append.mp h.2).2.2 p hp r List.mem_cons_self⟩
theorem step_ok {acc : List Rw} {r : Rw} (h : N acc) (hr : r.1 < r.2) (hs : ∀ p ∈ acc, p.1 ≤ r.1) : N (step acc r) ∧ (∀ t, atR (step acc r) t = (atR acc t || inR r t)) ∧ ∀ p ∈ step acc r, p.1 ≤ r.1 := by
  rcases List.eq_nil_or_concat acc with rfl | ⟨A, q, rfl⟩
  · refine ⟨N_snoc N_nil hr (fun _ h => by cases h), fun t => ?_, fun p hp => ?_⟩
    · show atR [r] t = (false || inR r t)
      rw [atR_cons]
      show (inR r t || false) = _
      rw [Bool.or_false, Bool.false_or]
    · rw [List.mem_singleton.mp hp]; exact Int.le_refl _
  · rw [List.concat_eq_append] at h hs ⊢
    obtain ⟨h1, h2, h3⟩ := N_front h
    have hq := hs q (List.mem_append_right _ List.mem_cons_self)
    have e : step (A ++ [q]) r = if r.1 ≤ q.2 then A ++ [(q.1, max q.2 r.2)] else A ++ [q] ++ [r] := by
      unfold step
      rw [List.getLast?_concat]
      simp only [List.dropLast_concat]
    rw [e]
    split
    · rename_i c
      refine ⟨N_snoc h1 (by show q.1 < max q.2 r.2; omega) h3, fun t => ?_, fun p hp => ?_⟩
      · rw [atR_app, atR_app, Bool.or_assoc]
        congr 1
        show (inR (q.1, max q.2 r.2) t || false) = ((inR q t || false) || inR r t)
        rw [Bool.or_false, Bool.or_false, Bool.eq_iff_iff, Bool.or_eq_true, inR_iff, inR_iff, inR_iff]
        show q.1 ≤ t ∧ t < max q.2 r.2 ↔ _
        omega
      · rcases List.mem_append.mp hp with hp | hp
        · exact hs p (List.mem_append_left _ hp)
        · rw [List.mem_singleton.mp hp]; exact hq
    · rename_i c
      refine ⟨N_snoc h hr fun p hp => ?_, fun t => ?_, fun p hp => ?_⟩
      · rcases List.mem_append.mp hp with hp | hp
        · have := h3 p hp; omega
        · rw [List.mem_singleton.mp hp]; omega
      · rw [atR_app _ [r]]
        congr 1
        show (inR r t || false) = _
        rw [Bool.or_false]
      · rcases List.mem_append.mp hp with hp | hp
        · exact hs p hp
        · rw [List.mem_singleton.mp hp]; exact Int.le_refl _
theorem fold_ok : ∀ (l acc : List Rw), N acc → Vl l → l.Pairwise (leP · · = true) → (∀ p ∈ acc, ∀ r ∈ l, p.1 ≤ r.1) → N (l.foldl step acc) ∧ ∀ t, atR (l.foldl step acc) t = (atR acc t || atR l t)
  | [], acc, h, _, _, _ => ⟨h, fun t => by show atR acc t = (atR acc t || false); rw [Bool.or_false]⟩
  | r :: l, acc, h, hv, hp, hs => by
    obtain ⟨p1, p2⟩ := List.pairwise_cons.mp hp
    obtain ⟨s1, s2, s3⟩ := step_ok h (hv r List.mem_cons_self) fun p hp => hs p hp r List.mem_cons_self
    obtain ⟨f1, f2⟩ := fold_ok l (step acc r) s1 (fun p hp => hv p (List.mem_cons_of_mem _ hp)) p2 fun p hp z hz => by
      have a := s3 p hp
      have b := leP_iff.mp (p1 z hz)
      omega
    exact ⟨f1, fun t => by rw [List.foldl_cons, f2, s2, atR_cons, Bool.or_assoc]⟩
theorem atR_perm {l m : List Rw} (p : l.Perm m) (t : Int) : atR l t = atR m t := by
  rw [Bool.eq_iff_iff, atR_iff, atR_iff]
  exact ⟨fun ⟨q, h1, h2⟩ => ⟨q, p.mem_iff.mp h1, h2⟩, fun ⟨q, h1, h2⟩ => ⟨q, p.mem_iff.mpr h1, h2⟩⟩
theorem join_ok {l : List Rw} (h : Vl l) : N (joinI l) ∧ ∀ t, atR (joinI l) t = atR l t := by
  obtain ⟨h1, h2⟩ := fold_ok (sortP l) [] N_nil (fun p hp => h p ((sortP_perm l).mem_iff.mp hp)) (sortP_sorted l) (fun p hp => by cases hp)
  exact ⟨h1, fun t => (h2 t).trans (atR_perm (sortP_perm l) t)⟩
/-! ### made of times -/
def mstep (acc : List Rw) (w : Int) : List Rw := match acc.getLast? with
  | some q => if q.2 = w then acc.dropLast ++ [(q.1, w + 1)] else acc ++ [(w, w + 1)]
  | none => [(w, w + 1)]
def madeI (ts : List Int) : List Rw := ts.foldl mstep []
theorem mstep_ok {acc : List Rw} {w : Int} (h : N acc) (hs : ∀ p ∈ acc, p.2 ≤ w) : N (mstep acc w) ∧ (∀ t, atR (mstep acc w) t = (atR acc t || decide (t = w))) ∧ ∀ p ∈ mstep acc w, p.2 ≤ w + 1 := by
  rcases List.eq_nil_or_concat acc with rfl | ⟨A, q, rfl⟩
  · refine ⟨N_snoc N_nil (by show w < w + 1; omega) (fun _ h => by cases h), fun t => ?_, fun p hp => ?_⟩
    · show (inR (w, w + 1) t || false) = (false || decide (t = w))
      rw [Bool.or_false, Bool.false_or, Bool.eq_iff_iff, inR_iff, decide_eq_true_eq]
      show w ≤ t ∧ t < w + 1 ↔ _
      omega
    · rw [List.mem_singleton.mp hp]; exact Int.le_refl _
  · rw [List.concat_eq_append] at h hs ⊢
    obtain ⟨h1, h2, h3⟩ := N_front h
    have hq := hs q (List.mem_append_right _ List.mem_cons_self)
    have e : mstep (A ++ [q]) w = if q.2 = w then A ++ [(q.1, w + 1)] else A ++ [q] ++ [(w, w + 1)] := by
      unfold mstep
      rw [List.getLast?_concat]
      simp only [List.dropLast_concat]
    rw [e]
    split
    · rename_i c
      refine ⟨N_snoc h1 (by show q.1 < w + 1; omega) h3, fun t => ?_, fun p hp => ?_⟩
      · rw [atR_app, atR_app, Bool.or_assoc]
        congr 1
        show (inR (q.1, w + 1) t || false) = ((inR q t || false) || decide (t = w))
        rw [Bool.or_false, Bool.or_false, Bool.eq_iff_iff, Bool.or_eq_true, inR_iff, inR_iff, decide_eq_true_eq]
        show q.1 ≤ t ∧ t < w + 1 ↔ _
        omega
      · rcases List.mem_append.mp hp with hp | hp
        · have := hs p (List.mem_append_left _ hp); omega
        · rw [List.mem_singleton.mp hp]; exact Int.le_refl _
    · rename_i c
      refine ⟨N_snoc h (by show w < w + 1; omega) fun p hp => ?_, fun t => ?_, fun p hp => ?_⟩
      · show p.2 < w
        rcases List.mem_append.mp hp with hp | hp
        · have := h3 p hp; omega
        · rw [List.mem_singleton.mp hp]; omega
      · rw [atR_app _ [(w, w + 1)]]
        congr 1
        show (inR (w, w + 1) t || false) = _
        rw [Bool.or_false, Bool.eq_iff_iff, inR_iff, decide_eq_true_eq]
        show w ≤ t ∧ t < w + 1 ↔ _
        omega
      · rcases List.mem_append.mp hp with hp | hp
        · have := hs p hp; omega
        · rw [List.mem_singleton.mp hp]; exact Int.le_refl _
theorem mfold_ok : ∀ (ts : List Int) (acc : List Rw), N acc → ts.Pairwise (· < ·) → (∀ p ∈ acc, ∀ w ∈ ts, p.2 ≤ w) → N (ts.foldl mstep acc) ∧ ∀ t, atR (ts.foldl mstep acc) t = (atR acc t || decide (t ∈ ts))
  | [], acc, h, _, _ => ⟨h, fun t => by show atR acc t = (atR acc t || decide (t ∈ [])); simp⟩
  | w :: ts, acc, h, hp, hs => by
    obtain ⟨p1, p2⟩ := List.pairwise_cons.mp hp
    obtain ⟨s1, s2, s3⟩ := mstep_ok h fun p hp => hs p hp w List.mem_cons_self
    obtain ⟨f1, f2⟩ := mfold_ok ts (mstep acc w) s1 p2 fun p hp z hz => by
      have a := s3 p hp
      have b := p1 z hz
      omega
    refine ⟨f1, fun t => ?_⟩
    rw [List.foldl_cons, f2, s2, Bool.or_assoc]
    congr 1
    rw [Bool.eq_iff_iff, Bool.or_eq_true, decide_eq_true_eq, decide_eq_true_eq, decide_eq_true_eq, List.mem_cons]
theorem made_uniq {l : List Rw} {ts : List Int} (h : N l) (hp : ts.Pairwise (· < ·)) (ha : ∀ t, atR l t = true ↔ t ∈ ts) : l = madeI ts := by
  obtain ⟨h1, h2⟩ := mfold_ok ts [] N_nil hp (fun p hp => by cases hp)
  refine N_uniq h h1 fun t => ?_
  rw [show atR (madeI ts) t = _ from h2 t, show atR [] t = false from rfl, Bool.false_or, Bool.eq_iff_iff, decide_eq_true_eq]
  exact ha t
end K04

namespace K04
open PySem G
/-! ### what is common -/
def comP (p q : Rw) : List Rw := if max p.1 q.1 < min p.2 q.2 then [(max p.1 q.1, min p.2 q.2)] else []
def comI (mine theirs : List Rw) : List Rw := mine.flatMap fun p => theirs.flatMap (comP p)
theorem comP_mem {p q r : Rw} : r ∈ comP p q ↔ max p.1 q.1 < min p.2 q.2 ∧ r = (max p.1 q.1, min p.2 q.2) := by
  unfold comP
  split
  · rename_i c; rw [List.mem_singleton]; exact ⟨fun h => ⟨c, h⟩, fun h => h.2⟩
  · rename_i c; exact ⟨(fun h => by cases h), fun h => absurd h.1 c⟩
theorem com_mem {l m : List Rw} {r : Rw} : r ∈ comI l m ↔ ∃ p ∈ l, ∃ q ∈ m, max p.1 q.1 < min p.2 q.2 ∧ r = (max p.1 q.1, min p.2 q.2) := by
  unfold comI
  rw [List.mem_flatMap]
  constructor
  · rintro ⟨p, hp, h⟩
    obtain ⟨q, hq, h⟩ := List.mem_flatMap.mp h
    exact ⟨p, hp, q, hq, comP_mem.mp h⟩
  · rintro ⟨p, hp, q, hq, h⟩
    exact ⟨p, hp, List.mem_flatMap.mpr ⟨q, hq, comP_mem.mpr h⟩⟩
theorem com_ok {l m : List Rw} (hl : N l) (hm : N m) : N (comI l m) ∧ ∀ t, atR (comI l m) t = (atR l t && atR m t) := by
  refine ⟨⟨fun r hr => ?_, ?_⟩, fun t => ?_⟩
  · obtain ⟨p, hp, q, hq, h, rfl⟩ := com_mem.mp hr
    show max p.1 q.1 < min p.2 q.2
    exact h
  · unfold comI
    rw [List.pairwise_flatMap]
    refine ⟨fun p hp => ?_, ?_⟩
    · rw [List.pairwise_flatMap]
      refine ⟨fun q hq => ?_, hm.2.imp fun h x hx y hy => ?_⟩
      · unfold comP
        split
        · exact List.pairwise_singleton _ _
        · exact .nil
      · obtain ⟨_, rfl⟩ := comP_mem.mp hx
        obtain ⟨_, rfl⟩ := comP_mem.mp hy
        show min _ _ < max _ _
        omega
    · refine hl.2.imp fun h x hx y hy => ?_
      obtain ⟨q, hq, hx⟩ := List.mem_flatMap.mp hx
      obtain ⟨q', hq', hy⟩ := List.mem_flatMap.mp hy
      obtain ⟨_, rfl⟩ := comP_mem.mp hx
      obtain ⟨_, rfl⟩ := comP_mem.mp hy
      show min _ _ < max _ _
      omega
  · rw [Bool.eq_iff_iff, Bool.and_eq_true, atR_iff, atR_iff, atR_iff]
    constructor
    · rintro ⟨r, hr, h1, h2⟩
      obtain ⟨p, hp, q, hq, h, rfl⟩ := com_mem.mp hr
      have h1 : max p.1 q.1 ≤ t := h1
      have h2 : t < min p.2 q.2 := h2
      exact ⟨⟨p, hp, by omega, by omega⟩, q, hq, by omega, by omega⟩
    · rintro ⟨⟨p, hp, h1, h2⟩, q, hq, h3, h4⟩
      exact ⟨_, com_mem.mpr ⟨p, hp, q, hq, by omega, rfl⟩, by show max p.1 q.1 ≤ t; omega, by show t < min p.2 q.2; omega⟩
/-! ### what is taken away -/
def woI (h e : Int) : List Rw → List Rw
  | [] => if h < e then [(h, e)] else []
  | q :: g => if h < q.2 ∧ q.1 < e then (if h < q.1 then [(h, q.1)] else []) ++ woI (max h q.2) e g else woI h e g
theorem wo_low : ∀ {g : List Rw} {h e : Int}, ∀ p ∈ woI h e g, h ≤ p.1 ∧ p.1 < p.2 ∧ p.2 ≤ e
  | [], h, e, p, hp => by
    unfold woI at hp
    split at hp
    · rw [List.mem_singleton.mp hp]; exact ⟨Int.le_refl _, by assumption, Int.le_refl _⟩
    · cases hp
  | q :: g, h, e, p, hp => by
    unfold woI at hp
    split at hp
    · rename_i c
      rcases List.mem_append.mp hp with hp | hp
      · split at hp
        · rw [List.mem_singleton.mp hp]; exact ⟨Int.le_refl _, by assumption, by show q.1 ≤ e; omega⟩
        · cases hp
      · have := wo_low p hp; omega
    · exact wo_low p hp
theorem wo_pair : ∀ {g : List Rw} {h e : Int}, N g → (woI h e g).Pairwise fun p q => p.2 < q.1
  | [], h, e, _ => by
    unfold woI
    split
    · exact List.pairwise_singleton _ _
    · exact .nil
  | q :: g, h, e, hg => by
    unfold woI
    split
    · rw [List.pairwise_append]
      refine ⟨?_, wo_pair (N_tail hg), fun x hx y hy => ?_⟩
      · split
        · exact List.pairwise_singleton _ _
        · exact .nil
      · split at hx
        · have a := wo_low y hy
          have b := hg.1 q List.mem_cons_self
          rw [List.mem_singleton.mp hx]
          show q.1 < y.1
          omega
        · cases hx
    · exact wo_pair (N_tail hg)
theorem wo_at : ∀ {g : List Rw} {h e : Int}, N g → ∀ t, atR (woI h e g) t = (inR (h, e) t && !atR g t)
  | [], h, e, _, t => by
    rw [show atR [] t = false from rfl, Bool.not_false, Bool.and_true]
    unfold woI
    split
    · show (inR (h, e) t || false) = _
      rw [Bool.or_false]
    · rename_i c
      rw [show atR [] t = false from rfl]
      symm
      rw [Bool.eq_false_iff]
      intro hx
      have := inR_iff.mp hx
      dsimp only at this
      omega
  | q :: g, h, e, hg, t => by
    have b := hg.1 q List.mem_cons_self
    have no : t ≤ q.2 → atR g t = false := fun ht => by
      rw [Bool.eq_false_iff]
      intro hx
      obtain ⟨z, hz, z1, z2⟩ := atR_iff.mp hx
      have := (List.pairwise_cons.mp hg.2).1 z hz
      omega
    unfold woI
    split
    · rename_i c
      rw [atR_app, wo_at (N_tail hg), atR_cons]
      have e1 : atR (if h < q.1 then [(h, q.1)] else []) t = inR (h, q.1) t := by
        split
        · show (inR (h, q.1) t || false) = _
          rw [Bool.or_false]
        · rename_i c
          symm
          show _ = false
          rw [Bool.eq_false_iff]
          intro hx
          have := inR_iff.mp hx
          dsimp only at this
          omega
      rw [e1, Bool.eq_iff_iff]
      by_cases d : t ≤ q.2
      · rw [no d]
        simp only [Bool.or_false, Bool.or_eq_true, Bool.and_eq_true, inR_iff, Bool.not_eq_true', Bool.not_false, and_true, Bool.eq_false_iff, ne_eq, inR_iff]
        omega
      · have : inR q t = false := by
          rw [Bool.eq_false_iff]; intro hx; have := inR_iff.mp hx; omega
        rw [this]
        simp only [Bool.or_eq_true, Bool.and_eq_true, inR_iff, Bool.not_eq_true', Bool.or_eq_false_iff, Bool.false_or]
        constructor
        · rintro (hx | ⟨hx, hy⟩)
          · omega
          · exact ⟨by omega, hy⟩
        · rintro ⟨hx, hy⟩
          exact .inr ⟨by omega, hy⟩
    · rename_i c
      rw [wo_at (N_tail hg), atR_cons]
      by_cases d : inR (h, e) t = true
      · have d' := inR_iff.mp d
        dsimp only at d'
        have : inR q t = false := by
          rw [Bool.eq_false_iff]; intro hx; have := inR_iff.mp hx; omega
        rw [this, Bool.false_or]
      · rw [Bool.not_eq_true] at d
        rw [d, Bool.false_and, Bool.false_and]
def wiI (one other : List Rw) : List Rw := (joinI one).flatMap fun p => woI p.1 p.2 (joinI other)
theorem wi_ok {l m : List Rw} (hl : Vl l) (hm : Vl m) : N (wiI l m) ∧ ∀ t, atR (wiI l m) t = (atR l t && !atR m t) := by
  obtain ⟨l1, l2⟩ := join_ok hl
  obtain ⟨m1, m2⟩ := join_ok hm
  unfold wiI
  refine ⟨⟨fun r hr => ?_, ?_⟩, fun t => ?_⟩
  · obtain ⟨p, hp, h⟩ := List.mem_flatMap.mp hr
    exact (wo_low r h).2.1
  · rw [List.pairwise_flatMap]
    refine ⟨fun p hp => wo_pair m1, l1.2.imp fun h x hx y hy => ?_⟩
    have := wo_low x hx
    have := wo_low y hy
    omega
  · rw [← l2, ← m2, Bool.eq_iff_iff, Bool.and_eq_true, atR_iff, atR_iff]
    constructor
    · rintro ⟨r, hr, h1, h2⟩
      obtain ⟨p, hp, h⟩ := List.mem_flatMap.mp hr
      have := (wo_at (h := p.1) (e := p.2) m1 t).symm.trans (atR_iff.mpr ⟨r, h, h1, h2⟩)
      rw [Bool.and_eq_true] at this
      exact ⟨⟨p, hp, inR_iff.mp this.1⟩, this.2⟩
    · rintro ⟨⟨p, hp, h⟩, hx⟩
      have := wo_at (h := p.1) (e := p.2) m1 t
      rw [hx, Bool.and_true, inR_iff.mpr h] at this
      obtain ⟨r, hr, h1⟩ := atR_iff.mp this
      exact ⟨r, List.mem_flatMap.mpr ⟨p, hp, hr⟩, h1⟩
def eiI (one other : List Rw) : List Rw := joinI (wiI one other ++ wiI other one)
theorem ei_ok {l m : List Rw} (hl : Vl l) (hm : Vl m) : N (eiI l m) ∧ ∀ t, atR (eiI l m) t = (atR l t != atR m t) := by
  obtain ⟨a1, a2⟩ := wi_ok hl hm
  obtain ⟨b1, b2⟩ := wi_ok hm hl
  obtain ⟨h1, h2⟩ := join_ok (l := wiI l m ++ wiI m l) fun p hp => by
    rcases List.mem_append.mp hp with hp | hp
    · exact a1.1 p hp
    · exact b1.1 p hp
  refine ⟨h1, fun t => (h2 t).trans ?_⟩
  rw [atR_app, a2, b2]
  cases atR l t <;> cases atR m t <;> rfl
/-! ### how long -/
def lenI (l : List Rw) : Int := (l.map fun p => p.2 - p.1).sum
theorem lenI_app (l m : List Rw) : lenI (l ++ m) = lenI l + lenI m := by
  unfold lenI
  rw [List.map_append, List.sum_append]
theorem mstep_len (acc : List Rw) (w : Int) : lenI (mstep acc w) = lenI acc + 1 := by
  rcases List.eq_nil_or_concat acc with rfl | ⟨A, q, rfl⟩
  · show w + 1 - w + 0 = 0 + 1
    omega
  · rw [List.concat_eq_append]
    unfold mstep
    rw [List.getLast?_concat]
    simp only [List.dropLast_concat]
    split
    · rename_i c
      rw [lenI_app, lenI_app, Int.add_assoc]
      congr 1
      show w + 1 - q.1 + 0 = q.2 - q.1 + 0 + 1
      omega
    · rw [lenI_app]
      congr 1
      show w + 1 - w + 0 = 1
      omega
theorem mfold_len : ∀ (ts : List Int) (acc : List Rw), lenI (ts.foldl mstep acc) = lenI acc + ts.length
  | [], acc => by show lenI acc = _ + ((0 : Nat) : Int); omega
  | w :: ts, acc => by
    rw [List.foldl_cons, mfold_len ts, mstep_len, List.length_cons]
    omega
theorem made_len (ts : List Int) : lenI (madeI ts) = ts.length := by
  rw [show lenI (madeI ts) = _ from mfold_len ts []]
  show 0 + _ = _
  omega
/-! ### how they lie -/
def plI (p q : Rw) : Option String :=
  if p = q then some "same" else if p.2 < q.1 then some "ahead" else if p.2 = q.1 then some "up to"
  else if p.1 = q.1 then (if p.2 < q.2 then some "begins" else none)
  else if p.2 = q.2 then (if p.1 > q.1 then some "ends" else none)
  else if p.1 > q.1 ∧ p.2 < q.2 then some "within"
  else if p.1 < q.1 ∧ q.1 < p.2 ∧ p.2 < q.2 then some "over" else none
def llI (p q : Rw) : Option String :=
  if p = q then some "same" else if p.2 ≤ q.1 then some (if p.2 < q.1 then "ahead" else "up to")
  else if p.1 = q.1 ∧ p.2 < q.2 then some "begins"
  else if p.2 = q.2 ∧ p.1 > q.1 then some "ends"
  else if q.1 < p.1 ∧ p.2 < q.2 then some "within"
  else if p.1 < q.1 ∧ q.1 < p.2 ∧ p.2 < q.2 then some "over" else none
theorem pl_ll (p q : Rw) : plI p q = llI p q := by
  unfold plI llI
  by_cases h : p = q
  · rw [if_pos h, if_pos h]
  rw [if_neg h, if_neg h]
  have h' : ¬ (p.1 = q.1 ∧ p.2 = q.2) := fun c => h (Prod.ext c.1 c.2)
  by_cases c1 : p.2 < q.1
  · rw [if_pos c1, if_pos (by omega), if_pos c1]
  by_cases c2 : p.2 = q.1
  · rw [if_neg c1, if_pos c2, if_pos (by omega), if_neg c1]
  rw [if_neg c1, if_neg c2, if_neg (show ¬ p.2 ≤ q.1 by omega)]
  by_cases c3 : p.1 = q.1
  · rw [if_pos c3]
    by_cases c4 : p.2 < q.2
    · rw [if_pos c4, if_pos ⟨c3, c4⟩]
    · rw [if_neg c4, if_neg (by omega), if_neg (by omega), if_neg (by omega), if_neg (by omega)]
  rw [if_neg c3, if_neg (show ¬ (p.1 = q.1 ∧ p.2 < q.2) by omega)]
  by_cases c4 : p.2 = q.2
  · rw [if_pos c4]
    by_cases c5 : p.1 > q.1
    · rw [if_pos c5, if_pos ⟨c4, c5⟩]
    · rw [if_neg c5, if_neg (by omega), if_neg (by omega), if_neg (by omega)]
  rw [if_neg c4, if_neg (show ¬ (p.2 = q.2 ∧ p.1 > q.1) by omega)]
theorem ll_some {p q : Rw} (hp : p.1 < p.2) (hq : q.1 < q.2) (h : plI p q = none) : ∃ w, plI q p = some w := by
  unfold plI at h ⊢
  by_cases c0 : q = p
  · exact ⟨_, if_pos c0⟩
  rw [if_neg c0]
  rw [if_neg (fun e => c0 e.symm)] at h
  have h' : ¬ (p.1 = q.1 ∧ p.2 = q.2) := fun c => c0 (Prod.ext c.1 c.2).symm
  by_cases c1 : p.2 < q.1
  · rw [if_pos c1] at h; cases h
  by_cases c2 : p.2 = q.1
  · rw [if_neg c1, if_pos c2] at h; cases h
  rw [if_neg c1, if_neg c2] at h
  by_cases d1 : q.2 < p.1
  · exact ⟨_, if_pos d1⟩
  by_cases d2 : q.2 = p.1
  · rw [if_neg d1, if_pos d2]; exact ⟨_, rfl⟩
  rw [if_neg d1, if_neg d2]
  by_cases c3 : p.1 = q.1
  · rw [if_pos c3] at h
    rw [if_pos c3.symm]
    by_cases c4 : p.2 < q.2
    · rw [if_pos c4] at h; cases h
    · exact ⟨_, if_pos (by omega)⟩
  rw [if_neg c3] at h
  rw [if_neg (fun e => c3 e.symm)]
  by_cases c4 : p.2 = q.2
  · rw [if_pos c4] at h
    rw [if_pos c4.symm]
    by_cases c5 : p.1 > q.1
    · rw [if_pos c5] at h; cases h
    · exact ⟨_, if_pos (by omega)⟩
  rw [if_neg c4] at h
  rw [if_neg (fun e => c4 e.symm)]
  by_cases c5 : p.1 > q.1 ∧ p.2 < q.2
  · rw [if_pos c5] at h; cases h
  rw [if_neg c5] at h
  by_cases c6 : p.1 < q.1 ∧ q.1 < p.2 ∧ p.2 < q.2
  · rw [if_pos c6] at h; cases h
  by_cases d5 : q.1 > p.1 ∧ q.2 < p.2
  · exact ⟨_, if_pos d5⟩
  rw [if_neg d5]
  exact ⟨_, if_pos (by omega)⟩
end K04

namespace K04
open PySem G
/-! ### how many at each time -/
abbrev Rt := Int × Int × Int
def inT (r : Rt) (t : Int) : Bool := decide (r.1 ≤ t) && decide (t < r.2.1)
theorem inT_iff {p : Rt} {t : Int} : inT p t = true ↔ p.1 ≤ t ∧ t < p.2.1 := by
  unfold inT
  rw [Bool.and_eq_true, decide_eq_true_eq, decide_eq_true_eq]
def cntI (rows : List Rw) (t : Int) : Int := ((rows.filter fun p => inR p t).length : Nat)
def covI (rows : List Rw) (s e : Int) : Int := ((rows.filter fun p => decide (p.1 ≤ s) && decide (e ≤ p.2)).length : Nat)
def hstep (rows : List Rw) (acc : List Rt) (c : Rw) : List Rt :=
  if 0 < covI rows c.1 c.2 then
    match acc.getLast? with
    | some q => if q.2.1 = c.1 ∧ q.2.2 = covI rows c.1 c.2 then acc.dropLast ++ [(q.1, c.2, covI rows c.1 c.2)] else acc ++ [(c.1, c.2, covI rows c.1 c.2)]
    | none => [(c.1, c.2, covI rows c.1 c.2)]
  else acc
def hmI (rows : List Rw) (cuts : List Int) : List Rt := (cuts.zip cuts.tail).foldl (hstep rows) []
def valT (l : List Rt) (t : Int) : Int := ((l.filter fun r => inT r t).map fun r => r.2.2).sum
def RT (p q : Rt) : Prop := p.2.1 < q.1 ∨ (p.2.1 = q.1 ∧ p.2.2 ≠ q.2.2)
theorem valT_nil (t : Int) : valT [] t = 0 := rfl
theorem valT_snoc (l : List Rt) (r : Rt) (t : Int) : valT (l ++ [r]) t = valT l t + if inT r t = true then r.2.2 else 0 := by
  unfold valT
  rw [List.filter_append, List.map_append, List.sum_append]
  congr 1
  rw [List.filter_cons]
  split
  · show r.2.2 + 0 = _; omega
  · rfl
structure HI (rows : List Rw) (acc : List Rt) (c : Int) : Prop where
  row : ∀ r ∈ acc, r.1 < r.2.1 ∧ 1 ≤ r.2.2 ∧ r.2.1 ≤ c
  pair : acc.Pairwise RT
  val : ∀ t, valT acc t = if t < c then cntI rows t else 0
theorem cnt_cov {rows : List Rw} {c d : Int} (h : ∀ p ∈ rows, ∀ x, x = p.1 ∨ x = p.2 → ¬ (c < x ∧ x < d)) {t : Int} (h1 : c ≤ t) (h2 : t < d) : cntI rows t = covI rows c d := by
  unfold cntI covI
  congr 2
  refine List.filter_congr fun p hp => ?_
  have a := h p hp _ (.inl rfl)
  have b := h p hp _ (.inr rfl)
  rw [Bool.eq_iff_iff, inR_iff, Bool.and_eq_true, decide_eq_true_eq, decide_eq_true_eq]
  omega
theorem pw_snoc {A : List Rt} {r : Rt} (h : A.Pairwise RT) (hA : ∀ p ∈ A, RT p r) : (A ++ [r]).Pairwise RT := by
  rw [List.pairwise_append]
  exact ⟨h, List.pairwise_singleton _ _, fun p hp q hq => by rw [List.mem_singleton.mp hq]; exact hA p hp⟩
theorem hstep_ok {rows : List Rw} {acc : List Rt} {c d : Int} (h : HI rows acc c) (hcd : c < d) (he : ∀ p ∈ rows, ∀ x, x = p.1 ∨ x = p.2 → ¬ (c < x ∧ x < d)) : HI rows (hstep rows acc (c, d)) d := by
  have cc := fun t => cnt_cov (t := t) he
  unfold hstep
  dsimp only
  have app : 0 < covI rows c d → (∀ p ∈ acc, RT p (c, d, covI rows c d)) → HI rows (acc ++ [(c, d, covI rows c d)]) d := fun hm hr => by
    refine ⟨fun r hr => ?_, pw_snoc h.pair hr, fun t => ?_⟩
    · rcases List.mem_append.mp hr with hr | hr
      · have := h.row r hr; omega
      · rw [List.mem_singleton.mp hr]; exact ⟨hcd, by show 1 ≤ covI rows c d; omega, Int.le_refl _⟩
    · have hv := h.val t
      rw [valT_snoc, hv]
      by_cases i : inT (c, d, covI rows c d) t = true
      · rw [if_pos i]
        have i := inT_iff.mp i
        dsimp only at i ⊢
        rw [if_neg (by omega), if_pos i.2, cc t i.1 i.2]; omega
      · rw [if_neg i]
        have i : ¬ (c ≤ t ∧ t < d) := fun x => i (inT_iff.mpr x)
        by_cases u : t < c
        · rw [if_pos u, if_pos (by omega)]; omega
        · rw [if_neg u, if_neg (by omega)]; omega
  split
  · rename_i hm
    rcases List.eq_nil_or_concat acc with e0 | ⟨A, q, e0⟩
    · subst e0
      exact app hm fun p hp => by cases hp
    · rw [List.concat_eq_append] at e0
      rw [e0, List.getLast?_concat]
      dsimp only
      rw [List.dropLast_concat]
      have hq := h.row q (by rw [e0]; exact List.mem_append_right _ List.mem_cons_self)
      have hp := h.pair
      rw [e0, List.pairwise_append] at hp
      split
      · rename_i g
        refine ⟨fun r hr => ?_, pw_snoc hp.1 fun p hA => hp.2.2 p hA q List.mem_cons_self |>.imp id fun x => ⟨x.1, ?_⟩, fun t => ?_⟩
        · rcases List.mem_append.mp hr with hr | hr
          · have := h.row r (by rw [e0]; exact List.mem_append_left _ hr); omega
          · rw [List.mem_singleton.mp hr]; exact ⟨by show q.1 < d; omega, by show 1 ≤ covI rows c d; omega, Int.le_refl _⟩
        · show p.2.2 ≠ covI rows c d
          rw [← g.2]; exact x.2
        · have hv := h.val t
          rw [e0, valT_snoc] at hv
          rw [valT_snoc]
          have g2 := g.2
          by_cases i : inT (q.1, d, covI rows c d) t = true
          · rw [if_pos i]
            have i := inT_iff.mp i
            dsimp only at i ⊢
            rw [if_pos i.2]
            by_cases u : t < c
            · rw [if_pos u, if_pos (inT_iff.mpr ⟨i.1, by omega⟩)] at hv
              omega
            · rw [if_neg u, if_neg (fun x => by have := inT_iff.mp x; omega)] at hv
              rw [cc t (by omega) i.2]; omega
          · rw [if_neg i]
            have i : ¬ (q.1 ≤ t ∧ t < d) := fun x => i (inT_iff.mpr x)
            rw [if_neg (show ¬ inT q t = true from fun x => by have := inT_iff.mp x; omega)] at hv
            by_cases u : t < c
            · rw [if_pos u] at hv; rw [if_pos (by omega)]; exact hv
            · rw [if_neg u] at hv; rw [if_neg (by omega)]; exact hv
      · rename_i g
        rw [← e0]
        refine app hm fun p hp' => ?_
        show p.2.1 < c ∨ (p.2.1 = c ∧ p.2.2 ≠ covI rows c d)
        rw [e0] at hp'
        rcases List.mem_append.mp hp' with hA | hA
        · have := hp.2.2 p hA q List.mem_cons_self
          unfold RT at this
          omega
        · rw [List.mem_singleton.mp hA]
          have := hq.2.2
          omega
  · rename_i hm
    refine ⟨fun r hr => ?_, h.pair, fun t => ?_⟩
    · have := h.row r hr; omega
    · rw [h.val t]
      by_cases u : t < c
      · rw [if_pos u, if_pos (by omega)]
      · rw [if_neg u]
        by_cases v : t < d
        · rw [if_pos v, cc t (by omega) v]
          have : 0 ≤ covI rows c d := Int.natCast_nonneg _
          omega
        · rw [if_neg v]
theorem hfold_ok {rows : List Rw} : ∀ (cs : List Int) (c : Int) (acc : List Rt), HI rows acc c → (c :: cs).Pairwise (· < ·) → (∀ p ∈ rows, ∀ x, x = p.1 ∨ x = p.2 → x ≤ c ∨ x ∈ cs) → ∃ d, HI rows (((c :: cs).zip cs).foldl (hstep rows) acc) d ∧ ∀ p ∈ rows, p.2 ≤ d
  | [], c, acc, h, _, hx => ⟨c, h, fun p hp => by
      rcases hx p hp _ (.inr rfl) with h | h
      · exact h
      · cases h⟩
  | d :: cs, c, acc, h, hp, hx => by
    obtain ⟨p1, p2⟩ := List.pairwise_cons.mp hp
    have p3 := (List.pairwise_cons.mp p2).1
    rw [List.zip_cons_cons, List.foldl_cons]
    refine hfold_ok cs d _ (hstep_ok h (p1 d List.mem_cons_self) fun p hp x he hc => ?_) p2 fun p hp x he => ?_
    · rcases hx p hp x he with h | h
      · omega
      · rcases List.mem_cons.mp h with h | h
        · omega
        · have := p3 x h; omega
    · rcases hx p hp x he with h | h
      · have := p1 d List.mem_cons_self; exact .inl (by omega)
      · rcases List.mem_cons.mp h with h | h
        · exact .inl (by omega)
        · exact .inr h
structure HK (rows : List Rw) (l : List Rt) : Prop where
  row : ∀ r ∈ l, r.1 < r.2.1 ∧ 1 ≤ r.2.2
  pair : l.Pairwise RT
  val : ∀ t, valT l t = cntI rows t
theorem cnt_zero {rows : List Rw} {t : Int} (h : ∀ p ∈ rows, ¬ (p.1 ≤ t ∧ t < p.2)) : cntI rows t = 0 := by
  unfold cntI
  rw [List.filter_eq_nil_iff.mpr fun p hp => by rw [inR_iff]; exact h p hp]
  rfl
theorem hm_ok {rows : List Rw} {cuts : List Int} (hp : cuts.Pairwise (· < ·)) (hc : ∀ p ∈ rows, p.1 ∈ cuts ∧ p.2 ∈ cuts) : HK rows (hmI rows cuts) := by
  cases cuts with
  | nil =>
    cases rows with
    | nil => exact ⟨(fun r h => by cases h), .nil, fun t => rfl⟩
    | cons p _ => exact absurd (hc p List.mem_cons_self).1 (by intro h; cases h)
  | cons c cs =>
    have lo : ∀ p ∈ rows, c ≤ p.1 := fun p h => by
      rcases List.mem_cons.mp (hc p h).1 with h | h
      · omega
      · have := (List.pairwise_cons.mp hp).1 _ h; omega
    obtain ⟨d, h1, h2⟩ := hfold_ok (rows := rows) cs c [] ⟨(fun r h => by cases h), .nil, fun t => by
      rw [valT_nil]
      split
      · rw [cnt_zero fun p h => by have := lo p h; omega]
      · rfl⟩ hp fun p h x hx => by
        have := hc p h
        rcases hx with rfl | rfl
        · rcases List.mem_cons.mp this.1 with h | h
          · exact .inl (by omega)
          · exact .inr h
        · rcases List.mem_cons.mp this.2 with h | h
          · exact .inl (by omega)
          · exact .inr h
    refine ⟨fun r hr => ⟨(h1.row r hr).1, (h1.row r hr).2.1⟩, h1.pair, fun t => ?_⟩
    rw [show valT (hmI rows (c :: cs)) t = _ from h1.val t]
    split
    · rfl
    · rw [cnt_zero fun p h => by have := h2 p h; omega]
theorem val_out {l : List Rt} {t : Int} (h : ∀ r ∈ l, inT r t = false) : valT l t = 0 := by
  unfold valT
  rw [List.filter_eq_nil_iff.mpr fun p hp => by rw [h p hp]; decide]
  rfl
theorem val_in : ∀ {l : List Rt} {t : Int}, l.Pairwise RT → (∀ r ∈ l, r.1 < r.2.1) → ∀ r ∈ l, inT r t = true → valT l t = r.2.2
  | q :: l, t, hp, hl, r, hr, hi => by
    obtain ⟨p1, p2⟩ := List.pairwise_cons.mp hp
    have hi' := inT_iff.mp hi
    have e : valT (q :: l) t = (if inT q t = true then q.2.2 else 0) + valT l t := by
      unfold valT
      rw [List.filter_cons]
      split
      · rfl
      · show _ = 0 + _; omega
    rw [e]
    rcases List.mem_cons.mp hr with rfl | hr
    · rw [if_pos hi, val_out fun x hx => ?_]
      · omega
      · rw [Bool.eq_false_iff]
        intro c
        have c := inT_iff.mp c
        have := p1 x hx
        unfold RT at this
        omega
    · have := p1 r hr
      have hq := hl q List.mem_cons_self
      unfold RT at this
      rw [if_neg (fun c => by have c := inT_iff.mp c; omega), val_in p2 (fun x hx => hl x (List.mem_cons_of_mem _ hx)) r hr hi]
      omega
theorem hk_cnt {rows : List Rw} {l : List Rt} (h : HK rows l) {r : Rt} (hr : r ∈ l) {t : Int} (hi : inT r t = true) : cntI rows t = r.2.2 := by
  rw [← h.val, val_in h.pair (fun r hr => (h.row r hr).1) r hr hi]
/-- at a time when there are many, some row of the answer lies -/
theorem hk_some {rows : List Rw} {l : List Rt} (h : HK rows l) {t : Int} (hc : 1 ≤ cntI rows t) : ∃ r ∈ l, inT r t = true ∧ r.2.2 = cntI rows t := by
  by_cases c : ∃ r ∈ l, inT r t = true
  · obtain ⟨r, hr, hi⟩ := c
    exact ⟨r, hr, hi, (hk_cnt h hr hi).symm⟩
  · have := h.val t
    rw [val_out fun r hr => by rw [Bool.eq_false_iff]; exact fun hi => c ⟨r, hr, hi⟩] at this
    omega
theorem cnt_at {rows : List Rw} {t : Int} : 1 ≤ cntI rows t ↔ atR rows t = true := by
  unfold cntI
  rw [atR_iff]
  constructor
  · intro h
    cases e : rows.filter fun p => inR p t with
    | nil => rw [e] at h; exact absurd h (by decide)
    | cons p l =>
      have : p ∈ rows.filter fun p => inR p t := by rw [e]; exact List.mem_cons_self
      obtain ⟨h1, h2⟩ := List.mem_filter.mp this
      exact ⟨p, h1, inR_iff.mp h2⟩
  · rintro ⟨p, hp, h⟩
    have : p ∈ rows.filter fun p => inR p t := List.mem_filter.mpr ⟨hp, inR_iff.mpr h⟩
    have := List.length_pos_of_mem this
    omega
/-- in at least so many -/
def ialI (l : List Rt) (many : Int) : List Rw := joinI ((l.filter fun r => decide (r.2.2 ≥ many)).map fun r => (r.1, r.2.1))
theorem ial_ok {rows : List Rw} {l : List Rt} (h : HK rows l) {many : Int} (hm : 1 ≤ many) : N (ialI l many) ∧ ∀ t, atR (ialI l many) t = true ↔ many ≤ cntI rows t := by
  have hv : Vl ((l.filter fun r => decide (r.2.2 ≥ many)).map fun r => (r.1, r.2.1)) := fun p hp => by
    obtain ⟨r, hr, rfl⟩ := List.mem_map.mp hp
    exact (h.row r (List.mem_filter.mp hr).1).1
  obtain ⟨h1, h2⟩ := join_ok hv
  refine ⟨h1, fun t => ?_⟩
  rw [show atR (ialI l many) t = _ from h2 t, atR_iff]
  constructor
  · rintro ⟨p, hp, h3, h4⟩
    obtain ⟨r, hr, rfl⟩ := List.mem_map.mp hp
    obtain ⟨hr, hd⟩ := List.mem_filter.mp hr
    rw [decide_eq_true_eq] at hd
    rw [hk_cnt h hr (inT_iff.mpr ⟨h3, h4⟩)]
    exact hd
  · intro hc
    obtain ⟨r, hr, hi, e⟩ := hk_some h (t := t) (by omega)
    exact ⟨_, List.mem_map.mpr ⟨r, List.mem_filter.mpr ⟨hr, by rw [decide_eq_true_eq]; omega⟩, rfl⟩, inT_iff.mp hi⟩
end K04

namespace K04
open PySem G
/-! ### the first that fits -/
def ceI (h step : Int) : Int := h + (0 - h) % step
theorem ceI_ok {h step : Int} (hs : 1 ≤ step) : h ≤ ceI h step ∧ ceI h step % step = 0 ∧ ∀ w, h ≤ w → w % step = 0 → ceI h step ≤ w := by
  unfold ceI
  have a := Int.emod_nonneg (0 - h) (show step ≠ 0 by omega)
  have b := Int.emod_lt_of_pos (0 - h) (show 0 < step by omega)
  have e := Int.emod_add_mul_ediv (0 - h) step
  have z : (h + (0 - h) % step) % step = 0 := by
    have : h + (0 - h) % step = step * (- ((0 - h) / step)) := by
      rw [Int.mul_neg]; omega
    rw [this, Int.mul_emod_right]
  refine ⟨by omega, z, fun w hw hz => ?_⟩
  have e1 := Int.emod_add_mul_ediv (h + (0 - h) % step) step
  have e2 := Int.emod_add_mul_ediv w step
  rw [z] at e1
  rw [hz] at e2
  generalize (h + (0 - h) % step) / step = x at e1
  generalize w / step = y at e2
  rcases Int.lt_or_le y x with c | c
  · have : step * (y + 1) ≤ step * x := Int.mul_le_mul_of_nonneg_left (by omega) (by omega)
    rw [Int.mul_add, Int.mul_one] at this
    omega
  · have : step * x ≤ step * y := Int.mul_le_mul_of_nonneg_left (by omega) (by omega)
    omega
def fitI (long step start : Int) : List Rw → Option Int
  | [] => none
  | p :: l => if ceI (max p.1 start) step + long ≤ p.2 then some (ceI (max p.1 start) step) else fitI long step start l
def okF (l : List Rw) (long step start w : Int) : Prop := start ≤ w ∧ w % step = 0 ∧ ∀ k, 0 ≤ k → k < long → atR l (w + k) = true
theorem fit_ok {long step start : Int} (hl : 1 ≤ long) (hs : 1 ≤ step) : ∀ {l : List Rw}, N l →
    (∀ h, fitI long step start l = some h → okF l long step start h ∧ ∀ w, okF l long step start w → h ≤ w) ∧ (fitI long step start l = none → ∀ w, ¬ okF l long step start w)
  | [], _ => ⟨(fun h e => by cases e), fun _ w h => by
      have := h.2.2 0 (by omega) (by omega)
      cases this⟩
  | p :: l, hN => by
    have p1 := hN.1 p List.mem_cons_self
    have p2 := (List.pairwise_cons.mp hN.2).1
    obtain ⟨c1, c2, c3⟩ := ceI_ok (h := max p.1 start) hs
    have two : ∀ w, okF (p :: l) long step start w → (p.1 ≤ w ∧ w + long ≤ p.2) ∨ (p.2 < w ∧ okF l long step start w) := fun w hw => by
      have at0 := hw.2.2 0 (by omega) (by omega)
      rw [atR_cons, Bool.or_eq_true, inR_iff] at at0
      by_cases c : w < p.2
      · have : p.1 ≤ w := by
          rcases at0 with h | h
          · omega
          · obtain ⟨z, hz, z1, z2⟩ := atR_iff.mp h
            have := p2 z hz
            omega
        refine .inl ⟨this, ?_⟩
        rcases Int.lt_or_le p.2 (w + long) with d | d
        · have := hw.2.2 (p.2 - w) (by omega) (by omega)
          rw [atR_cons, Bool.or_eq_true, inR_iff, show w + (p.2 - w) = p.2 by omega] at this
          rcases this with h | h
          · omega
          · obtain ⟨z, hz, z1, z2⟩ := atR_iff.mp h
            have := p2 z hz
            omega
        · exact d
      · have low : p.2 < w := by
          rcases at0 with h | h
          · omega
          · obtain ⟨z, hz, z1, z2⟩ := atR_iff.mp h
            have := p2 z hz
            omega
        refine .inr ⟨low, hw.1, hw.2.1, fun k k1 k2 => ?_⟩
        have := hw.2.2 k k1 k2
        rw [atR_cons, Bool.or_eq_true, inR_iff] at this
        rcases this with h | h
        · omega
        · exact h
    obtain ⟨i1, i2⟩ := fit_ok hl hs (N_tail hN)
    unfold fitI
    by_cases c : ceI (max p.1 start) step + long ≤ p.2
    · rw [if_pos c]
      refine ⟨fun h e => ?_, fun e => by cases e⟩
      cases e
      refine ⟨⟨by omega, c2, fun k k1 k2 => ?_⟩, fun w hw => ?_⟩
      · rw [atR_cons, Bool.or_eq_true, inR_iff]
        exact .inl (by omega)
      · rcases two w hw with h | h
        · exact c3 w (by have := hw.1; omega) hw.2.1
        · omega
    · rw [if_neg c]
      have none : ∀ w, okF (p :: l) long step start w → okF l long step start w := fun w hw => by
        rcases two w hw with h | h
        · have := c3 w (by have := hw.1; omega) hw.2.1
          omega
        · exact h.2
      refine ⟨fun h e => ?_, fun e w hw => i2 e w (none w hw)⟩
      obtain ⟨j1, j2⟩ := i1 h e
      refine ⟨⟨j1.1, j1.2.1, fun k k1 k2 => ?_⟩, fun w hw => j2 w (none w hw)⟩
      rw [atR_cons, j1.2.2 k k1 k2, Bool.or_true]
/-- the head of what is left of an ascending list is its least -/
theorem head_least {P : Int → Bool} {l : List Int} (hp : l.Pairwise (· < ·)) {h : Int} (h1 : h ∈ l) (h2 : P h = true) (h3 : ∀ w ∈ l, P w = true → h ≤ w) : (l.filter P).head? = some h := by
  cases e : l.filter P with
  | nil =>
    have : h ∈ l.filter P := List.mem_filter.mpr ⟨h1, h2⟩
    rw [e] at this; cases this
  | cons w t =>
    have hw : w ∈ l.filter P := by rw [e]; exact List.mem_cons_self
    obtain ⟨w1, w2⟩ := List.mem_filter.mp hw
    have a := h3 w w1 w2
    have hh : h ∈ l.filter P := List.mem_filter.mpr ⟨h1, h2⟩
    have pp := hp.filter P
    rw [e] at hh pp
    rcases List.mem_cons.mp hh with rfl | hh
    · rfl
    · have := (List.pairwise_cons.mp pp).1 h hh
      omega
/-! ### the greedy choice -/
section
variable {α : Type} (r : α → Rw)
def gst (acc : List α) (a : α) : List α := match acc.getLast? with
  | some b => if (r b).2 ≤ (r a).1 then acc ++ [a] else acc
  | none => [a]
def grI (l : List α) : List α := l.foldl (gst r) []
theorem gst_last (A : List α) (b a : α) : gst r (A ++ [b]) a = if (r b).2 ≤ (r a).1 then A ++ [b] ++ [a] else A ++ [b] := by
  unfold gst
  rw [List.getLast?_concat]
structure GI (done acc : List α) : Prop where
  sub : acc.Sublist done
  pair : acc.Pairwise fun a b => (r a).2 ≤ (r b).1
  hit : ∀ a ∈ done, ∃ b ∈ acc, (r a).1 < (r b).2 ∧ (r b).2 ≤ (r a).2
theorem gst_ok {done acc : List α} {a : α} (h : GI r done acc) (hd : ∀ b ∈ done, (r b).2 ≤ (r a).2) (hv : ∀ b ∈ done ++ [a], (r b).1 < (r b).2) : GI r (done ++ [a]) (gst r acc a) := by
  have va := hv a (List.mem_append_right _ List.mem_cons_self)
  have add : ∀ {x}, (∃ b ∈ acc, (r x).1 < (r b).2 ∧ (r b).2 ≤ (r x).2) → ∃ b ∈ acc ++ [a], (r x).1 < (r b).2 ∧ (r b).2 ≤ (r x).2 := fun ⟨b, h1, h2⟩ => ⟨b, List.mem_append_left _ h1, h2⟩
  have app : (∀ b ∈ acc, (r b).2 ≤ (r a).1) → GI r (done ++ [a]) (acc ++ [a]) := fun hb => by
    refine ⟨h.sub.append (List.Sublist.refl _), ?_, fun x hx => ?_⟩
    · rw [List.pairwise_append]
      exact ⟨h.pair, List.pairwise_singleton _ _, fun p hp q hq => by rw [List.mem_singleton.mp hq]; exact hb p hp⟩
    · rcases List.mem_append.mp hx with hx | hx
      · exact add (h.hit x hx)
      · rw [List.mem_singleton.mp hx]
        exact ⟨a, List.mem_append_right _ List.mem_cons_self, va, Int.le_refl _⟩
  rcases List.eq_nil_or_concat acc with e | ⟨A, b, e⟩
  · subst e
    exact app fun b hb => by cases hb
  · rw [List.concat_eq_append] at e
    rw [e, gst_last, ← e]
    have hb : b ∈ acc := by rw [e]; exact List.mem_append_right _ List.mem_cons_self
    split
    · rename_i c
      refine app fun x hx => ?_
      have hp := h.pair
      rw [e] at hx
      rw [e, List.pairwise_append] at hp
      rcases List.mem_append.mp hx with hx | hx
      · have := hp.2.2 x hx b List.mem_cons_self
        have := hv b (List.mem_append_left _ (h.sub.subset hb))
        omega
      · rw [List.mem_singleton.mp hx]; exact c
    · rename_i c
      refine ⟨h.sub.trans (List.sublist_append_left _ _), h.pair, fun x hx => ?_⟩
      rcases List.mem_append.mp hx with hx | hx
      · exact h.hit x hx
      · rw [List.mem_singleton.mp hx]
        exact ⟨b, hb, by omega, hd b (h.sub.subset hb)⟩
theorem gr_fold : ∀ (l done acc : List α), GI r done acc → (done ++ l).Pairwise (fun a b => (r a).2 ≤ (r b).2) → (∀ b ∈ done ++ l, (r b).1 < (r b).2) → GI r (done ++ l) (l.foldl (gst r) acc)
  | [], done, acc, h, _, _ => by rw [List.append_nil]; exact h
  | a :: l, done, acc, h, hp, hv => by
    have e : done ++ a :: l = done ++ [a] ++ l := by rw [List.append_assoc]; rfl
    rw [e] at hp hv ⊢
    rw [List.foldl_cons]
    refine gr_fold l (done ++ [a]) _ (gst_ok r h (fun b hb => ?_) fun b hb => hv b (List.mem_append_left _ hb)) hp hv
    exact (List.pairwise_append.mp (List.pairwise_append.mp hp).1).2.2 b hb a List.mem_cons_self
theorem gr_ok {l : List α} (hp : l.Pairwise fun a b => (r a).2 ≤ (r b).2) (hv : ∀ b ∈ l, (r b).1 < (r b).2) : GI r l (grI r l) :=
  gr_fold r l [] [] ⟨List.Sublist.refl _, .nil, fun a h => by cases h⟩ hp hv
end
/-- disjoint stretches, each hit: no fewer points -/
def disj (p q : Rw) : Prop := ¬ (p.1 < q.2 ∧ q.1 < p.2)
theorem pigeon : ∀ {ds : List Rw} {ps : List Int}, ds.Pairwise disj → (∀ d ∈ ds, ∃ x ∈ ps, d.1 ≤ x ∧ x < d.2) → ds.length ≤ ps.length
  | [], ps, _, _ => Nat.zero_le _
  | d :: ds, ps, hp, hh => by
    obtain ⟨p1, p2⟩ := List.pairwise_cons.mp hp
    obtain ⟨x, hx, x1, x2⟩ := hh d List.mem_cons_self
    have := pigeon (ds := ds) (ps := ps.erase x) p2 fun e he => by
      obtain ⟨y, hy, y1, y2⟩ := hh e (List.mem_cons_of_mem _ he)
      have hd := p1 e he
      refine ⟨y, (List.mem_erase_of_ne ?_).mpr hy, y1, y2⟩
      intro c
      subst c
      exact hd ⟨by omega, by omega⟩
    rw [List.length_erase_of_mem hx] at this
    have := List.length_pos_of_mem hx
    rw [List.length_cons]
    omega
/-! ### sets -/
def setsI (ts : List Int) : List (List Int) := ts.foldl (fun rows t => rows ++ rows.map (· ++ [t])) [[]]
theorem sets_snoc (ts : List Int) (t : Int) : setsI (ts ++ [t]) = setsI ts ++ (setsI ts).map (· ++ [t]) := by
  unfold setsI
  rw [List.foldl_append]
  rfl
def upto (n : Nat) : List Int := (List.range n).map Int.ofNat
theorem upto_succ (n : Nat) : upto (n + 1) = upto n ++ [(n : Int)] := by
  unfold upto
  rw [List.range_succ, List.map_append]
  rfl
theorem sets_mem : ∀ {n : Nat} {s : List Int}, s ∈ setsI (upto n) ↔ s.Pairwise (· < ·) ∧ ∀ k ∈ s, 0 ≤ k ∧ k < n
  | 0, s => by
    show s ∈ [[]] ↔ _
    rw [List.mem_singleton]
    constructor
    · rintro rfl; exact ⟨.nil, fun k h => by cases h⟩
    · intro h
      cases s with
      | nil => rfl
      | cons k s => have := h.2 k List.mem_cons_self; omega
  | n + 1, s => by
    rw [upto_succ, sets_snoc, List.mem_append, List.mem_map]
    constructor
    · rintro (h | ⟨s', h, rfl⟩)
      · obtain ⟨h1, h2⟩ := sets_mem.mp h
        exact ⟨h1, fun k hk => by have := h2 k hk; omega⟩
      · obtain ⟨h1, h2⟩ := sets_mem.mp h
        refine ⟨?_, fun k hk => ?_⟩
        · rw [List.pairwise_append]
          exact ⟨h1, List.pairwise_singleton _ _, fun p hp q hq => by rw [List.mem_singleton.mp hq]; exact (h2 p hp).2⟩
        · rcases List.mem_append.mp hk with hk | hk
          · have := h2 k hk; omega
          · rw [List.mem_singleton.mp hk]; omega
    · rintro ⟨h1, h2⟩
      rcases List.eq_nil_or_concat s with e | ⟨A, k, e⟩
      · subst e
        exact .inl (sets_mem.mpr ⟨.nil, fun k h => by cases h⟩)
      · rw [List.concat_eq_append] at e
        rw [e, List.pairwise_append] at h1
        have hk := h2 k (by rw [e]; exact List.mem_append_right _ List.mem_cons_self)
        have lows : ∀ j ∈ A, 0 ≤ j ∧ j < k := fun j hj => ⟨(h2 j (by rw [e]; exact List.mem_append_left _ hj)).1, h1.2.2 j hj k List.mem_cons_self⟩
        by_cases c : k = n
        · refine .inr ⟨A, sets_mem.mpr ⟨h1.1, fun j hj => by have := lows j hj; omega⟩, ?_⟩
          rw [e, c]
        · refine .inl (sets_mem.mpr ⟨?_, fun j hj => ?_⟩)
          · rw [e, List.pairwise_append]; exact h1
          · rw [e] at hj
            rcases List.mem_append.mp hj with hj | hj
            · have := lows j hj; omega
            · rw [List.mem_singleton.mp hj]; omega
def rowAt (rows : List Rw) (k : Int) : Rw := rows.getD k.toNat (0, 0)
def clashI (rows : List Rw) (s : List Int) : Bool := s.any fun k => s.any fun j => decide (j < k) && (decide ((rowAt rows j).1 < (rowAt rows k).2) && decide ((rowAt rows k).1 < (rowAt rows j).2))
theorem clash_iff {rows : List Rw} {s : List Int} : clashI rows s = false ↔ ∀ k ∈ s, ∀ j ∈ s, j < k → disj (rowAt rows j) (rowAt rows k) := by
  unfold clashI disj
  rw [Bool.eq_false_iff, ne_eq, List.any_eq_true]
  constructor
  · intro h k hk j hj hlt hc
    refine h ⟨k, hk, ?_⟩
    rw [List.any_eq_true]
    exact ⟨j, hj, by rw [Bool.and_eq_true, Bool.and_eq_true, decide_eq_true_eq, decide_eq_true_eq, decide_eq_true_eq]; exact ⟨hlt, hc⟩⟩
  · rintro h ⟨k, hk, hx⟩
    rw [List.any_eq_true] at hx
    obtain ⟨j, hj, hx⟩ := hx
    rw [Bool.and_eq_true, Bool.and_eq_true, decide_eq_true_eq, decide_eq_true_eq, decide_eq_true_eq] at hx
    exact h k hk j hj hx.1 hx.2
theorem clash_pair {rows : List Rw} {s : List Int} (hs : s.Pairwise (· < ·)) (h : clashI rows s = false) : (s.map (rowAt rows)).Pairwise disj := by
  rw [List.pairwise_map]
  exact (hs.imp_of_mem fun ha hb hab => clash_iff.mp h _ hb _ ha hab)
def bst (rows : List Rw) (b : Int) (s : List Int) : Int := if clashI rows s then b else max b ((s.length : Nat) : Int)
def bestI (rows : List Rw) (sets : List (List Int)) : Int := sets.foldl (bst rows) 0
theorem best_fold (rows : List Rw) : ∀ (l : List (List Int)) (b : Int), b ≤ l.foldl (bst rows) b
    ∧ (∀ s ∈ l, clashI rows s = false → ((s.length : Nat) : Int) ≤ l.foldl (bst rows) b)
    ∧ ∀ m : Int, b ≤ m → (∀ s ∈ l, clashI rows s = false → ((s.length : Nat) : Int) ≤ m) → l.foldl (bst rows) b ≤ m
  | [], b => ⟨Int.le_refl _, (fun s h => by cases h), fun m h _ => h⟩
  | s :: l, b => by
    rw [List.foldl_cons]
    obtain ⟨i1, i2, i3⟩ := best_fold rows l (bst rows b s)
    refine ⟨?_, fun s' hs' hc => ?_, fun m hb hm => i3 m ?_ fun s' h => hm s' (List.mem_cons_of_mem _ h)⟩
    · refine Int.le_trans ?_ i1
      unfold bst
      by_cases c : clashI rows s = true
      · rw [if_pos c]; exact Int.le_refl _
      · rw [if_neg c]; omega
    · rcases List.mem_cons.mp hs' with rfl | h
      · refine Int.le_trans ?_ i1
        unfold bst
        rw [hc, if_neg (by decide)]
        omega
      · exact i2 s' h hc
    · unfold bst
      split
      · exact hb
      · rename_i c
        have := hm s List.mem_cons_self (by rw [Bool.not_eq_true] at c; exact c)
        omega
/-- the choices: as many points as rows apart, and no more rows lie apart -/
theorem greedy {rows : List Rw} (hv : Vl rows) {es : List Rw} {ks : List Int}
    (he : es.Perm rows) (hes : es.Pairwise fun a b => a.2 ≤ b.2)
    (hk : ks.Perm (upto rows.length)) (hks : ks.Pairwise fun a b => (rowAt rows a).2 ≤ (rowAt rows b).2)
    {ap : List Int} (hap : ap.Perm (grI (rowAt rows) ks)) (hap2 : ap.Pairwise (· ≤ ·)) :
    let pts := (grI (fun p : Rw => p) es).map fun p => p.2 - 1
    pts.Pairwise (· < ·) ∧ (∀ p ∈ rows, ∃ x ∈ pts, p.1 ≤ x ∧ x < p.2) ∧ clashI rows ap = false ∧ (ap.length : Int) = bestI rows (setsI (upto rows.length)) ∧ (pts.length : Int) = bestI rows (setsI (upto rows.length)) := by
  intro pts
  have ge := gr_ok (fun p : Rw => p) hes fun b hb => hv b (he.mem_iff.mp hb)
  have kmem : ∀ k ∈ ks, 0 ≤ k ∧ k < rows.length := fun k h => by
    have := hk.mem_iff.mp h
    unfold upto at this
    obtain ⟨i, hi, rfl⟩ := List.mem_map.mp this
    have := List.mem_range.mp hi
    exact ⟨Int.natCast_nonneg _, by show ((i : Nat) : Int) < _; omega⟩
  have rmem : ∀ k : Int, 0 ≤ k → k < rows.length → rowAt rows k ∈ rows := fun k h1 h2 => by
    unfold rowAt
    rw [List.getD_eq_getElem?_getD, List.getElem?_eq_getElem (show k.toNat < rows.length by omega)]
    exact List.getElem_mem _
  have hall : ∀ p ∈ rows, ∃ k ∈ ks, rowAt rows k = p := fun p hp => by
    obtain ⟨i, hi, e⟩ := List.getElem_of_mem hp
    refine ⟨(i : Int), hk.mem_iff.mpr ?_, ?_⟩
    · unfold upto
      exact List.mem_map.mpr ⟨i, List.mem_range.mpr hi, rfl⟩
    · unfold rowAt
      rw [Int.toNat_natCast, List.getD_eq_getElem?_getD, List.getElem?_eq_getElem hi, e]; rfl
  have gk := gr_ok (rowAt rows) hks fun b hb => hv _ (rmem b (kmem b hb).1 (kmem b hb).2)
  have hv2 : ∀ a ∈ grI (fun p : Rw => p) es, a.1 < a.2 := fun a ha => hv a (he.mem_iff.mp (ge.sub.subset ha))
  have pp : pts.Pairwise (· < ·) := by
    refine List.pairwise_map.mpr (ge.pair.imp_of_mem fun {a b} ha hb h => ?_)
    have := hv2 b hb
    show a.2 - 1 < b.2 - 1
    omega
  have hits : ∀ p ∈ rows, ∃ x ∈ pts, p.1 ≤ x ∧ x < p.2 := fun p hp => by
    obtain ⟨b, hb, h1, h2⟩ := ge.hit p (he.mem_iff.mpr hp)
    exact ⟨b.2 - 1, List.mem_map.mpr ⟨b, hb, rfl⟩, by omega, by omega⟩
  have apmem : ∀ k ∈ ap, k ∈ ks := fun k h => gk.sub.subset (hap.mem_iff.mp h)
  have knd : ks.Nodup := hk.nodup_iff.mpr (by
    unfold upto
    exact List.pairwise_map.mpr (List.nodup_range.imp fun h c => h (Int.ofNat.inj c)))
  have apn : ap.Nodup := hap.nodup_iff.mpr (knd.sublist gk.sub)
  have aplt : ap.Pairwise (· < ·) := by
    have := hap2.and apn
    exact this.imp fun h => by have := h.1; have := h.2; omega
  have noc : clashI rows ap = false := by
    have gp : (grI (rowAt rows) ks).Pairwise fun a b => disj (rowAt rows a) (rowAt rows b) ∧ disj (rowAt rows b) (rowAt rows a) := gk.pair.imp fun h => by
      unfold disj; omega
    rw [clash_iff]
    intro k hk1 j hj hlt
    have hk1 := hap.mem_iff.mp hk1
    have hj := hap.mem_iff.mp hj
    have : ∀ {l : List Int}, l.Pairwise (fun a b => disj (rowAt rows a) (rowAt rows b) ∧ disj (rowAt rows b) (rowAt rows a)) → k ∈ l → j ∈ l → disj (rowAt rows j) (rowAt rows k) := by
      intro l hl
      induction l with
      | nil => intro h; cases h
      | cons a l ih =>
        intro h1 h2
        obtain ⟨q1, q2⟩ := List.pairwise_cons.mp hl
        rcases List.mem_cons.mp h1 with h1 | h1 <;> rcases List.mem_cons.mp h2 with h2 | h2
        · omega
        · rw [h1]; exact (q1 j h2).2
        · rw [h2]; exact (q1 k h1).1
        · exact ih q2 h1 h2
    exact this gp hk1 hj
  have apset : ap ∈ setsI (upto rows.length) := sets_mem.mpr ⟨aplt, fun k h => kmem k (apmem k h)⟩
  obtain ⟨_, b1, b2⟩ := best_fold rows (setsI (upto rows.length)) 0
  have up : (ap.length : Int) ≤ bestI rows (setsI (upto rows.length)) := b1 ap apset noc
  have lo : bestI rows (setsI (upto rows.length)) ≤ (pts.length : Int) := b2 _ (Int.natCast_nonneg _) fun s hs hc => by
    obtain ⟨s1, s2⟩ := sets_mem.mp hs
    have := pigeon (ps := pts) (clash_pair s1 hc) fun d hd => by
      obtain ⟨k, hk, rfl⟩ := List.mem_map.mp hd
      exact hits _ (rmem k (s2 k hk).1 (s2 k hk).2)
    rw [List.length_map] at this
    omega
  have mid : pts.length ≤ ap.length := by
    have := pigeon (ds := grI (fun p : Rw => p) es) (ps := ap.map fun k => (rowAt rows k).2 - 1) (ge.pair.imp fun h => by unfold disj; omega) fun d hd => by
      obtain ⟨k, hk, e⟩ := hall d (he.mem_iff.mp (ge.sub.subset hd))
      obtain ⟨b, hb, h1, h2⟩ := gk.hit k hk
      rw [e] at h1 h2
      exact ⟨(rowAt rows b).2 - 1, List.mem_map.mpr ⟨b, hap.mem_iff.mpr hb, rfl⟩, by omega, by omega⟩
    rw [List.length_map] at this
    show ((grI (fun p : Rw => p) es).map _).length ≤ _
    rw [List.length_map]
    exact this
  exact ⟨pp, hits, noc, by omega, by omega⟩
end K04

namespace K04
open PySem G
theorem dats_pairs : ∀ l : List Rw, D.dats (l.map pairT) = true
  | [] => rfl
  | p :: l => by
    show (true && (true && true) && D.dats (l.map pairT)) = true
    rw [dats_pairs l]; rfl
theorem deps_pairs : ∀ l : List Rw, D.deps (l.map pairT) ≤ 1
  | [] => by show 0 ≤ 1; omega
  | p :: l => by
    have := deps_pairs l
    show max (max 0 (max 0 0) + 1) (D.deps (l.map pairT)) ≤ 1
    omega
theorem cls_pairs (n : Nat) : ∀ l : List Rw, D.cls n (l.map pairT) = true
  | [] => rfl
  | p :: l => by
    show (true && (true && true) && D.cls n (l.map pairT)) = true
    rw [cls_pairs n l]; rfl
theorem eqvs_nil (L : List D) : D.eqvs L [] = L.isEmpty := by
  cases L <;> rfl
theorem ne_nil {st : Store} {n : Nat} {L : List D} (h : lstAt st n = some L) (h1 : D.dats L = true) (h2 : D.deps L ≤ 60) : aNe (.ref n) (.lst []) st = .ok (.bl (!L.isEmpty)) st := by
  have e : norm st (.ref n) = .lst L := by simp [norm, h]
  unfold aNe
  have e2 : norm st (.lst []) = .lst [] := rfl
  rw [e, e2]
  have : okEq (.lst L) (.lst []) = true := by
    unfold okEq
    have h3 : D.dep (.lst L) ≤ 64 := by show D.deps L + 1 ≤ 64; omega
    have h4 : D.dep (.lst []) ≤ 64 := by show 0 + 1 ≤ 64; omega
    rw [show (D.lst L).dat = true from h1, decide_eq_true h3, decide_eq_true h4]
    rfl
  rw [if_pos this]
  show R.ok (D.bl (!D.eqvs L [])) st = _
  rw [eqvs_nil]
theorem eq_nil {st : Store} {n : Nat} {L : List D} (h : lstAt st n = some L) (h1 : D.dats L = true) (h2 : D.deps L ≤ 60) : aEq (.ref n) (.lst []) st = .ok (.bl L.isEmpty) st := by
  have e : norm st (.ref n) = .lst L := by simp [norm, h]
  unfold aEq
  have e2 : norm st (.lst []) = .lst [] := rfl
  rw [e, e2]
  have : okEq (.lst L) (.lst []) = true := by
    unfold okEq
    have h3 : D.dep (.lst L) ≤ 64 := by show D.deps L + 1 ≤ 64; omega
    have h4 : D.dep (.lst []) ≤ 64 := by show 0 + 1 ≤ 64; omega
    rw [show (D.lst L).dat = true from h1, decide_eq_true h3, decide_eq_true h4]
    rfl
  rw [if_pos this]
  show R.ok (D.bl (D.eqvs L [])) st = _
  rw [eqvs_nil]
theorem at_last {α : Type} (A : List α) (x : α) : L2.atI (A ++ [x]) (-1) = some x := by
  unfold L2.atI L2.ixN
  rw [if_neg (by decide), if_pos (by rw [List.length_append]; show -(((A.length + 1 : Nat)) : Int) ≤ -1; omega)]
  show (A ++ [x])[(-1 + ((A ++ [x]).length : Int)).toNat]? = some x
  rw [List.length_append, show (-1 + ((A.length + [x].length : Nat) : Int)).toNat = A.length by show (-1 + ((A.length + 1 : Nat) : Int)).toNat = _; omega]
  simp
theorem ix_last {st : Store} {n : Nat} {A : List D} {x : D} (h : lstAt st n = some (A ++ [x])) : aIx (.ref n) (.int (-1)) st = .ok x st := by
  show (match lstAt st n with
    | some ds => (match L2.atI ds (-1) with
      | some d => R.ok d st
      | none => R.bad)
    | none => R.bad) = _
  rw [h]
  dsimp only
  rw [at_last]
theorem set_last {st : Store} {n : Nat} {A : List D} {x d : D} (h : lstAt st n = some (A ++ [x])) : setAt st (.ref n) (.int (-1)) d = some (st.set n (SO.lst (A ++ [d]))) := by
  unfold setAt
  dsimp only
  rw [h]
  dsimp only
  unfold L2.ixN
  rw [if_neg (by decide), if_pos (by rw [List.length_append]; show -(((A.length + 1 : Nat)) : Int) ≤ -1; omega)]
  dsimp only
  rw [List.length_append, show (-1 + ((A.length + [x].length : Nat) : Int)).toNat = A.length by show (-1 + ((A.length + 1 : Nat) : Int)).toNat = _; omega]
  simp
theorem app_run {fo fe : DE} {env : G.Env} {st : Store} {n : Nat} {L : List D} {d : D} (ho : fo env st = .ok (.ref n) st) (h : lstAt st n = some L) (he : fe env st = .ok d st) (hl : L.length < 16777216) : dAppend fo fe env st = .ok .non (st.set n (.lst (L ++ [d]))) := by
  unfold dAppend
  rw [ho, R.bind_ok]
  dsimp only
  rw [h]
  dsimp only
  rw [he, R.bind_ok, h]
  dsimp only
  rw [if_pos hl]
theorem lst_end (st : Store) (L : List D) : lstAt (st ++ [.lst L]) st.length = some L := by
  unfold lstAt
  simp
theorem set_end {α : Type} : ∀ (st : List α) (a b : α), (st ++ [a]).set st.length b = st ++ [b]
  | [], _, _ => rfl
  | x :: st, a, b => by simp
theorem trim_tup {f : List D → Store → R D} {ds : List D} {st : Store} {x : SO} {out : List D} (h : f ds st = .ok (.tup out) (st ++ [x])) (hc : D.cls st.length out = true) (hst : stCl st.length st = true) : trim f ds st = .ok (.tup out) st := by
  unfold trim
  rw [h]
  dsimp only
  rw [show letGo st.length (st ++ [x]) (D.tup out) = D.tup out from rfl, List.take_append_length, if_pos ⟨hc, hst, by simp⟩]
theorem tup_end (st : Store) (L : List D) : bTuple [D.ref st.length] (st ++ [SO.lst L]) = .ok (.tup L) (st ++ [.lst L]) := by
  show (match lstAt (st ++ [SO.lst L]) st.length with
      | some ds => R.ok (D.tup ds) (st ++ [SO.lst L])
      | none => R.bad) = _
  rw [lst_end]
/-! ### generator expressions into any(..) -/
theorem any_lc {α : Type} {gt : DG} {fe : DE} {env : G.Env} {st : Store} (mk : α → D) (e' : α → G.Env) (p : α → Bool) : ∀ l : List α, (∀ a ∈ l, gt (mk a) env = some (e' a) ∧ fe (e' a) st = .ok (.bl (p a)) st) → ∃ xs, lcS true gt dYes fe none (l.map mk) env st = .ok xs st ∧ xs.all isBl = true ∧ xs.any isTT = l.any p
  | [], _ => ⟨[], by simp [lcS, gdOk], rfl, rfl⟩
  | a :: l, h => by
    obtain ⟨h1, h2⟩ := h a List.mem_cons_self
    obtain ⟨xs, i1, i2, i3⟩ := any_lc mk e' p l fun b hb => h b (List.mem_cons_of_mem _ hb)
    cases c : p a with
    | true =>
      rw [c] at h2
      exact ⟨[.bl true], by simp [lcS, gdOk, h1, h2, dYes, R.b, isTT], rfl, by rw [List.any_cons (a := a), c]; rfl⟩
    | false =>
      rw [c] at h2
      refine ⟨.bl false :: xs, ?_, ?_, ?_⟩
      · simp [lcS, gdOk, h1, h2, dYes, R.b, isTT, i1]
      · rw [List.all_cons, i2]; rfl
      · rw [List.any_cons, i3, List.any_cons, c]; rfl
theorem any_run {fi : DI} {gt : DG} {fe : DE} {vs : List Nat} {env : G.Env} {st : Store} {α : Type} (mk : α → D) (e' : α → G.Env) (p : α → Bool) (l : List α) (hi : fi env st = .ok (l.map mk, none) st) (hl : l.length ≤ 16777216)
    (h : ∀ a ∈ l, gt (mk a) (wipeE env vs) = some (e' a) ∧ fe (e' a) st = .ok (.bl (p a)) st) : dAnyG (dGx fi gt dYes fe vs) env st = .ok (.bl (l.any p)) st := by
  obtain ⟨xs, i1, i2, i3⟩ := any_lc mk e' p l h
  unfold dAnyG dGx
  rw [hi, R.bind_ok]
  rw [R.bind_ok]
  show (if (l.map mk).length ≤ 16777216 then (if true = true then lcS true gt dYes fe none (l.map mk) (wipeE env vs) st else _) else _).b _ = _
  rw [if_pos (by rw [List.length_map]; exact hl), if_pos rfl, i1, R.b_ok, if_pos i2, i3]
theorem lcF {α : Type} {gt : DG} {ft : DT} {fe : DE} {env : G.Env} {st : Store} (mk v : α → D) (e' : α → G.Env) (p : α → Bool) : ∀ l : List α, (∀ a ∈ l, gt (mk a) env = some (e' a) ∧ ft (e' a) st = .ok (p a) st ∧ (p a = true → fe (e' a) st = .ok (v a) st)) → lcD gt ft fe none (l.map mk) env st = .ok ((l.filter p).map v) st
  | [], _ => by simp [lcD, gdOk]
  | a :: l, h => by
    obtain ⟨h1, h2, h3⟩ := h a List.mem_cons_self
    have ih := lcF mk v e' p l fun b hb => h b (List.mem_cons_of_mem _ hb)
    cases c : p a with
    | true => simp [lcD, gdOk, h1, h2, c, h3 c, R.b, ih]
    | false => simp [lcD, gdOk, h1, h2, c, R.b, ih]
theorem lcM {α : Type} {gt : DG} {fe : DE} {env : G.Env} {st : Store} (mk v : α → D) (e' : α → G.Env) (l : List α) (h : ∀ a ∈ l, gt (mk a) env = some (e' a) ∧ fe (e' a) st = .ok (v a) st) : lcD gt dYes fe none (l.map mk) env st = .ok (l.map v) st := by
  have := lcF (gt := gt) (ft := dYes) (fe := fe) (env := env) (st := st) mk v e' (fun _ => true) l fun a ha => ⟨(h a ha).1, rfl, fun _ => (h a ha).2⟩
  rw [List.filter_eq_self.mpr fun _ _ => rfl] at this
  exact this
theorem lc_run {b : Bool} {fi : DI} {gt : DG} {ft : DT} {fe : DE} {vs : List Nat} {env : G.Env} {st st' : Store} {ds out : List D} (hi : fi env st = .ok (ds, none) st) (hl : ds.length ≤ 16777216) (h : lcD gt ft fe none ds (wipeE env vs) st = .ok out st') : dLc b fi gt ft fe vs env st = mkL b out st' := by
  unfold dLc
  rw [hi, R.bind_ok, if_pos hl, h, R.b_ok]
theorem lcF_run {α : Type} {fi : DI} {gt : DG} {ft : DT} {fe : DE} {vs : List Nat} {env : G.Env} {st : Store} (mk v : α → D) (e' : α → G.Env) (p : α → Bool) (l : List α) (hi : fi env st = .ok (l.map mk, none) st) (hl : l.length ≤ 16777216)
    (h : ∀ a ∈ l, gt (mk a) (wipeE env vs) = some (e' a) ∧ ft (e' a) st = .ok (p a) st ∧ (p a = true → fe (e' a) st = .ok (v a) st)) : dLc false fi gt ft fe vs env st = .ok (.lst ((l.filter p).map v)) st := by
  rw [lc_run hi (by rw [List.length_map]; exact hl) (lcF mk v e' p l h)]
  rfl
theorem lcM_run {α : Type} {fi : DI} {gt : DG} {fe : DE} {vs : List Nat} {env : G.Env} {st : Store} (mk v : α → D) (e' : α → G.Env) (l : List α) (hi : fi env st = .ok (l.map mk, none) st) (hl : l.length ≤ 16777216)
    (h : ∀ a ∈ l, gt (mk a) (wipeE env vs) = some (e' a) ∧ fe (e' a) st = .ok (v a) st) : dLc false fi gt dYes fe vs env st = .ok (.lst (l.map v)) st := by
  rw [lc_run hi (by rw [List.length_map]; exact hl) (lcM mk v e' l h)]
  rfl
/-- rows, as a list or a tuple -/
def RD (d : D) (rows : List Rw) : Prop := d = .lst (rows.map pairT) ∨ d = .tup (rows.map pairT)
theorem it_rows {f : DE} {env : G.Env} {st : Store} {d : D} {rows : List Rw} (h : RD d rows) (hf : f env st = .ok d st) : dIt f env st = .ok (rows.map pairT, none) st := by
  unfold dIt
  rw [hf, R.bind_ok]
  rcases h with rfl | rfl <;> rfl
theorem it_tup {f : DE} {env : G.Env} {st : Store} {L : List D} (hf : f env st = .ok (.tup L) st) : dIt f env st = .ok (L, none) st := by
  unfold dIt
  rw [hf, R.bind_ok]
  rfl
theorem it_lst {f : DE} {env : G.Env} {st : Store} {L : List D} (hf : f env st = .ok (.lst L) st) : dIt f env st = .ok (L, none) st := by
  unfold dIt
  rw [hf, R.bind_ok]
  rfl
theorem sorted_rows {d : D} {rows : List Rw} (h : RD d rows) (st : Store) : bSortedA false [d] st = .ok (.lst ((sortP rows).map pairT)) st := by
  have e : seqA st d = some (rows.map pairT) := by rcases h with rfl | rfl <;> rfl
  unfold bSortedA
  dsimp only
  rw [e]
  dsimp only
  cases rows with
  | nil => rfl
  | cons p l =>
    show (match pairsD ((p :: l).map pairT) with
        | some ps => mkL false ((sortP ps).map pairT) st
        | none => .bad) = _
    rw [pairs_map]
    rfl
theorem gt_pair (i j : Nat) (p : Rw) (env : G.Env) : dgTup 2 (dgCons (dgName i) (dgCons (dgName j) dgNil)) (pairT p) env = some ((env.set i (some (.int p.1))).set j (some (.int p.2))) := rfl
theorem e_check {d : D} {rows : List Rw} (h : RD d rows) (hl : rows.length ≤ 1000) (hv : Vl rows) (st : Store) : f_check_spans [d] st = .ok .non st := by
  have a : dAnyG (dGx (dIt (dVar 0)) (dgTup 2 (dgCons (dgName 1) (dgCons (dgName 2) (dgNil)))) (dYes) y_check_spans_1 [1, 2]) [some d, none, none] st = .ok (.bl (rows.any fun p => decide (p.2 ≤ p.1))) st :=
    any_run pairT (fun p => [some d, some (.int p.1), some (.int p.2)]) _ rows (it_rows h rfl) (by omega) fun p _ => ⟨rfl, rfl⟩
  have b : (rows.any fun p => decide (p.2 ≤ p.1)) = false := by
    rw [Bool.eq_false_iff, ne_eq, List.any_eq_true]
    rintro ⟨p, hp, hx⟩
    have := hv p hp
    rw [decide_eq_true_eq] at hx
    omega
  rw [b] at a
  have c : b_check_spans [some d, none, none] st = .nx [some d, none, none] st := by
    unfold b_check_spans
    simp only [dIfS, dTru, a, R.bind_ok, truD, R.s, Bool.false_eq_true, if_false, dNext]
  unfold f_check_spans runB
  show (match b_check_spans [some d, none, none] st with
    | .nx _ st => R.ok D.non st
    | .rt d st => R.ok d st
    | .ex c _ st => R.ex c st
    | _ => R.bad) = _
  rw [c]
theorem step_nil (r : Rw) : step [] r = [r] := rfl
theorem step_snoc (A : List Rw) (q r : Rw) : step (A ++ [q]) r = if r.1 ≤ q.2 then A ++ [(q.1, max q.2 r.2)] else A ++ [q] ++ [r] := by
  unfold step
  rw [List.getLast?_concat]
  simp only [List.dropLast_concat]
theorem step_len (acc : List Rw) (r : Rw) : (step acc r).length ≤ acc.length + 1 := by
  rcases List.eq_nil_or_concat acc with rfl | ⟨A, q, rfl⟩
  · exact Nat.le_refl _
  · rw [List.concat_eq_append, step_snoc]
    split <;> simp
theorem join_len (l : List Rw) : (joinI l).length ≤ l.length := by
  have : ∀ (m acc : List Rw), (m.foldl step acc).length ≤ acc.length + m.length := by
    intro m
    induction m with
    | nil => intro acc; exact Nat.le_refl _
    | cons r m ih =>
      intro acc
      have a := ih (step acc r)
      have b := step_len acc r
      rw [List.foldl_cons, List.length_cons]
      omega
  have a := this (sortP l) []
  rw [(sortP_perm l).length_eq] at a
  rw [List.length_nil, Nat.zero_add] at a
  exact a
theorem app_pair {i : Nat} {fe : DE} {env : G.Env} {st : Store} {n : Nat} {L : List D} {d : D} (ho : env[i]? = some (some (.ref n))) (h : lstAt st n = some L) (he : fe env st = .ok d st) (hl : L.length < 16777216) : dDrop (dAppend (dVar i) fe) env st = .nx env (st.set n (.lst (L ++ [d]))) := by
  unfold dDrop
  rw [app_run (n := n) (by simp only [dVar, ho]) h he hl]
  rfl
theorem ix0 (p : Rw) (st : Store) : aIx (pairT p) (.int 0) st = .ok (.int p.1) st := rfl
theorem ix1 (p : Rw) (st : Store) : aIx (pairT p) (.int 1) st = .ok (.int p.2) st := rfl
theorem max_run (i j : Int) (st : Store) : bMax2 [.int i, .int j] st = .ok (.int (max i j)) st := by
  show R.ok (D.int (if j > i then j else i)) st = _
  rw [show (if j > i then j else i) = max i j by split <;> omega]
theorem min_run (i j : Int) (st : Store) : bMin2 [.int i, .int j] st = .ok (.int (min i j)) st := by
  show R.ok (D.int (if j < i then j else i)) st = _
  rw [show (if j < i then j else i) = min i j by split <;> omega]
theorem nil_run {env : G.Env} {st : Store} : dLst false dNil env st = .ok (.lst []) st := rfl
theorem nilT_run {env : G.Env} {st : Store} : dLst true dNil env st = .ok (.ref st.length) (st ++ [.lst []]) := rfl
theorem neg1 {env : G.Env} {st : Store} : dNeg (dC (.int 1)) env st = .ok (.int (-1)) st := rfl
theorem join_step {d : D} (acc : List Rw) (r : Rw) {st : Store} (hl : acc.length < 16777216) :
    l_joined_1 [some d, some (.ref st.length), some (.int r.1), some (.int r.2)] (st ++ [.lst (acc.map pairT)]) = .nx [some d, some (.ref st.length), some (.int r.1), some (.int r.2)] (st ++ [.lst ((step acc r).map pairT)]) := by
  obtain ⟨S, hS⟩ : ∃ S, S = st ++ [SO.lst (acc.map pairT)] := ⟨_, rfl⟩
  have hn : lstAt S st.length = some (acc.map pairT) := by rw [hS]; exact lst_end _ _
  have hse : ∀ L, S.set st.length (.lst L) = st ++ [.lst L] := fun L => by rw [hS]; exact set_end _ _ _
  have ne := ne_nil hn (dats_pairs acc) (by have := deps_pairs acc; omega)
  have ap := app_pair (i := 1) (fe := dTup (dCons (dVar 2) (dCons (dVar 3) (dNil)))) (env := [some d, some (.ref st.length), some (.int r.1), some (.int r.2)]) (d := pairT r) rfl hn (tup2 rfl rfl) (by rw [List.length_map]; exact hl)
  rw [hse] at ap
  rw [← hS]
  unfold l_joined_1
  rcases List.eq_nil_or_concat acc with e | ⟨A, q, e⟩
  · subst e
    exact if_f (and_run (x := false) (y := true) (b_run (bin_run rfl nil_run ne)) (fun h => by cases h)) ap
  · rw [List.concat_eq_append] at e
    subst e
    rw [List.map_append] at hn
    have ix := ix_last hn
    have ne2 : aNe (.ref st.length) (.lst []) S = .ok (.bl true) S := by
      rw [ne, List.map_append]
      cases A <;> rfl
    have last : ∀ env : G.Env, env[1]? = some (some (.ref st.length)) → dBin aIx (dVar 1) (dNeg (dC (.int 1))) env S = .ok (pairT q) S := fun env h => bin_run (by unfold dVar; rw [h]) neg1 ix
    have c : dAnd (dB (dBin aNe (dVar 1) (dLst false (dNil)))) (dB (dBin aLeT (dVar 2) (dBin aIx (dBin aIx (dVar 1) (dNeg (dC (.int 1)))) (dC (.int 1))))) [some d, some (.ref st.length), some (.int r.1), some (.int r.2)] S = .ok (decide (r.1 ≤ q.2)) S :=
      and_run (x := true) (b_run (bin_run rfl nil_run ne2)) fun _ => b_run (bin_run rfl (bin_run (last _ rfl) rfl (ix1 q S)) rfl)
    rw [step_snoc]
    by_cases h : r.1 ≤ q.2
    · rw [if_pos h]
      rw [decide_eq_true h] at c
      refine if_t c (set_run (d := pairT (q.1, max q.2 r.2)) (tup2 (bin_run (last _ rfl) rfl (ix0 q S)) (call_run (cons2 (bin_run (last _ rfl) rfl (ix1 q S)) rfl) (max_run _ _ _))) rfl neg1 ?_)
      rw [set_last hn, hse, List.map_append]; rfl
    · rw [if_neg h]
      rw [decide_eq_false h] at c
      refine if_f c ?_
      rw [show (A ++ [q] ++ [r]).map pairT = (A ++ [q]).map pairT ++ [pairT r] by simp]
      exact ap
theorem e_joined {d : D} {rows : List Rw} (h : RD d rows) (hl : rows.length ≤ 1000) (hv : Vl rows) {st : Store} (hst : stCl st.length st = true) : f_joined [d] st = .ok (.tup ((joinI rows).map pairT)) st := by
  obtain ⟨e', f1, _⟩ := for_fold (ε := Option D × Option D) (gt := dgTup 2 (dgCons (dgName 2) (dgCons (dgName 3) (dgNil)))) (fb := l_joined_1) pairT (fun (_ : List Rw) e => [some d, some (.ref st.length), e.1, e.2]) (fun acc => st ++ [SO.lst (acc.map pairT)]) step (fun acc n => acc.length + n ≤ 1000) (sortP rows)
    (fun r _ acc e n hP => ⟨_, (some (.int r.1), some (.int r.2)), gt_pair 2 3 r _, .inl (join_step acc r (by omega)), by have := step_len acc r; omega⟩) [] (none, none) 0 (by rw [(sortP_perm rows).length_eq]; show 0 + (0 + _) ≤ _; omega)
  refine trim_tup (x := .lst ((joinI rows).map pairT)) (runB_rt ?_) (cls_pairs _ _) hst
  show b_joined [some d, none, none, none] st = _
  unfold b_joined
  refine seq_run (drop_run (call_run (cons1 rfl) (e_check h hl hv st))) ?_
  refine seq_run (asg_run nilT_run rfl) ?_
  refine seq_run (for_run (it_lst (call_run (cons1 rfl) (sorted_rows h _))) f1) ?_
  exact ret_run (call_run (cons1 rfl) (tup_end _ _))
end K04

namespace K04
open PySem G
theorem foldl_app {α β : Type} (f : α → List β) : ∀ (l : List α) (acc : List β), l.foldl (fun acc a => acc ++ f a) acc = acc ++ l.flatMap f
  | [], acc => by simp
  | a :: l, acc => by rw [List.foldl_cons, foldl_app f l, List.flatMap_cons, List.append_assoc]
theorem app_to {i : Nat} {fe : DE} {env : G.Env} {st S : Store} {L : List D} {d : D} (hS : S = st ++ [SO.lst L]) (ho : env[i]? = some (some (.ref st.length))) (he : fe env S = .ok d S) (hl : L.length < 16777216) : dDrop (dAppend (dVar i) fe) env S = .nx env (st ++ [SO.lst (L ++ [d])]) := by
  rw [app_pair ho (by rw [hS]; exact lst_end _ _) he hl, hS, set_end]
/-! common -/
theorem comP_len (p q : Rw) : (comP p q).length ≤ 1 := by
  unfold comP
  split
  · exact Nat.le_refl _
  · exact Nat.zero_le _
theorem com_inner (o t m th : D) (p q : Rw) (acc : List Rw) {st : Store} (hl : acc.length < 16777216) :
    l_common_1 [some o, some t, some m, some th, some (.ref st.length), some (.int p.1), some (.int p.2), some (.int q.1), some (.int q.2)] (st ++ [.lst (acc.map pairT)]) = .nx [some o, some t, some m, some th, some (.ref st.length), some (.int p.1), some (.int p.2), some (.int q.1), some (.int q.2)] (st ++ [.lst ((acc ++ comP p q).map pairT)]) := by
  obtain ⟨S, hS⟩ : ∃ S, S = st ++ [SO.lst (acc.map pairT)] := ⟨_, rfl⟩
  rw [← hS]
  unfold l_common_1
  have mx : ∀ env : G.Env, env[5]? = some (some (.int p.1)) → env[7]? = some (some (.int q.1)) → dCall bMax2 (dCons (dVar 5) (dCons (dVar 7) (dNil))) env S = .ok (.int (max p.1 q.1)) S := fun env h1 h2 => call_run (cons2 (by unfold dVar; rw [h1]) (by unfold dVar; rw [h2])) (max_run _ _ _)
  have mn : ∀ env : G.Env, env[6]? = some (some (.int p.2)) → env[8]? = some (some (.int q.2)) → dCall bMin2 (dCons (dVar 6) (dCons (dVar 8) (dNil))) env S = .ok (.int (min p.2 q.2)) S := fun env h1 h2 => call_run (cons2 (by unfold dVar; rw [h1]) (by unfold dVar; rw [h2])) (min_run _ _ _)
  unfold comP
  by_cases h : max p.1 q.1 < min p.2 q.2
  · rw [if_pos h, List.map_append]
    refine if_t (b_run (bin_run (mx _ rfl rfl) (mn _ rfl rfl) (show _ = R.ok (D.bl (decide _)) S from rfl)) |>.trans (by rw [decide_eq_true h])) ?_
    exact app_to hS rfl (tup2 (mx _ rfl rfl) (mn _ rfl rfl)) (by rw [List.length_map]; exact hl)
  · rw [if_neg h, List.append_nil]
    refine if_f (b_run (bin_run (mx _ rfl rfl) (mn _ rfl rfl) (show _ = R.ok (D.bl (decide _)) S from rfl)) |>.trans (by rw [decide_eq_false h])) ?_
    rw [hS]; rfl
theorem com_outer (o t m : D) (p : Rw) (ths acc : List Rw) (e7 e8 : Option D) {st : Store} (hl : acc.length + ths.length ≤ 16000000) :
    ∃ x y, l_common_2 [some o, some t, some m, some (.tup (ths.map pairT)), some (.ref st.length), some (.int p.1), some (.int p.2), e7, e8] (st ++ [.lst (acc.map pairT)]) = .nx [some o, some t, some m, some (.tup (ths.map pairT)), some (.ref st.length), some (.int p.1), some (.int p.2), x, y] (st ++ [.lst ((acc ++ ths.flatMap (comP p)).map pairT)]) := by
  obtain ⟨e', f1, _⟩ := for_fold (ε := Option D × Option D) (gt := dgTup 2 (dgCons (dgName 7) (dgCons (dgName 8) (dgNil)))) (fb := l_common_1) pairT (fun (_ : List Rw) e => [some o, some t, some m, some (.tup (ths.map pairT)), some (.ref st.length), some (.int p.1), some (.int p.2), e.1, e.2]) (fun acc => st ++ [SO.lst (acc.map pairT)]) (fun acc q => acc ++ comP p q) (fun acc n => acc.length + n ≤ 16000000) ths
    (fun q _ acc e n hP => ⟨_, (some (.int q.1), some (.int q.2)), gt_pair 7 8 q _, .inl (com_inner o t m _ p q acc (by omega)), by have := comP_len p q; rw [List.length_append]; omega⟩) acc (e7, e8) 0 (by omega)
  rw [foldl_app] at f1
  exact ⟨_, _, for_run (it_tup rfl) f1⟩
theorem flat_len {α β : Type} (f : α → List β) (k : Nat) (hf : ∀ a, (f a).length ≤ k) : ∀ l : List α, (l.flatMap f).length ≤ l.length * k
  | [] => Nat.zero_le _
  | a :: l => by
    have := flat_len f k hf l
    have := hf a
    rw [List.flatMap_cons, List.length_append, List.length_cons, Nat.add_mul, Nat.one_mul]
    omega
theorem e_common {d e : D} {l m : List Rw} (hd : RD d l) (he : RD e m) (hl : l.length ≤ 1000) (hm : m.length ≤ 1000) (vl : Vl l) (vm : Vl m) {st : Store} (hst : stCl st.length st = true) : f_common [d, e] st = .ok (.tup ((comI (joinI l) (joinI m)).map pairT)) st := by
  have jl := join_len l
  have jm := join_len m
  obtain ⟨e', f1, _⟩ := for_fold (ε := Option D × Option D × Option D × Option D) (gt := dgTup 2 (dgCons (dgName 5) (dgCons (dgName 6) (dgNil)))) (fb := l_common_2) pairT (fun (_ : List Rw) x => [some d, some e, some (.tup ((joinI l).map pairT)), some (.tup ((joinI m).map pairT)), some (.ref st.length), x.1, x.2.1, x.2.2.1, x.2.2.2]) (fun acc => st ++ [SO.lst (acc.map pairT)]) (fun acc p => acc ++ (joinI m).flatMap (comP p)) (fun acc n => acc.length + n * 1000 ≤ 1000000) (joinI l)
    (fun p _ acc x n hP => by
      obtain ⟨y, z, h⟩ := com_outer d e (.tup ((joinI l).map pairT)) p (joinI m) acc x.2.2.1 x.2.2.2 (st := st) (by omega)
      refine ⟨_, (some (.int p.1), some (.int p.2), y, z), gt_pair 5 6 p _, .inl h, ?_⟩
      have := flat_len (comP p) 1 (comP_len p) (joinI m)
      rw [List.length_append]
      omega) [] (none, none, none, none) 0 (by show 0 + (0 + _) * 1000 ≤ _; omega)
  rw [foldl_app] at f1
  refine trim_tup (x := .lst ((comI (joinI l) (joinI m)).map pairT)) (runB_rt ?_) (cls_pairs _ _) hst
  show b_common [some d, some e, none, none, none, none, none, none, none] st = _
  unfold b_common
  refine seq_run (par_run (cons2 (call_run (cons1 rfl) (e_joined hd hl vl hst)) (call_run (cons1 rfl) (e_joined he hm vm hst))) rfl) ?_
  refine seq_run (asg_run nilT_run rfl) ?_
  refine seq_run (for_run (it_tup rfl) f1) ?_
  exact ret_run (call_run (cons1 rfl) (tup_end _ _))
/-! without -/
def wst (e : Int) (s : List Rw × Int) (q : Rw) : List Rw × Int := if s.2 < q.2 ∧ q.1 < e then (s.1 ++ (if s.2 < q.1 then [(s.2, q.1)] else []), max s.2 q.2) else s
theorem wst_fold (e : Int) : ∀ (g : List Rw) (acc : List Rw) (h : Int), (g.foldl (wst e) (acc, h)).1 ++ (if (g.foldl (wst e) (acc, h)).2 < e then [((g.foldl (wst e) (acc, h)).2, e)] else []) = acc ++ woI h e g
  | [], acc, h => rfl
  | q :: g, acc, h => by
    rw [List.foldl_cons]
    have w : wst e (acc, h) q = if h < q.2 ∧ q.1 < e then (acc ++ (if h < q.1 then [(h, q.1)] else []), max h q.2) else (acc, h) := rfl
    have u : woI h e (q :: g) = if h < q.2 ∧ q.1 < e then (if h < q.1 then [(h, q.1)] else []) ++ woI (max h q.2) e g else woI h e g := rfl
    rw [w, u]
    by_cases c : h < q.2 ∧ q.1 < e
    · rw [if_pos c, if_pos c, wst_fold e g, List.append_assoc]
    · rw [if_neg c, if_neg c, wst_fold e g]
theorem wst_len (e : Int) (s : List Rw × Int) (q : Rw) : (wst e s q).1.length ≤ s.1.length + 1 := by
  unfold wst
  split
  · split
    · simp
    · simp
  · omega
theorem wo_len (h e : Int) : ∀ g : List Rw, (woI h e g).length ≤ g.length + 1
  | [] => by unfold woI; split <;> simp
  | q :: g => by
    have a := wo_len (max h q.2) e g
    have b := wo_len h e g
    unfold woI
    split
    · rw [List.length_append, List.length_cons]
      have : (if h < q.1 then [(h, q.1)] else []).length ≤ 1 := by split <;> simp
      omega
    · rw [List.length_cons]; omega
theorem wo_inner (o t g : D) (p q : Rw) (s : List Rw × Int) {st : Store} (hl : s.1.length < 16777216) :
    l_without_1 [some o, some t, some (.ref st.length), some g, some (.int p.1), some (.int p.2), some (.int s.2), some (.int q.1), some (.int q.2)] (st ++ [.lst (s.1.map pairT)]) = .nx [some o, some t, some (.ref st.length), some g, some (.int p.1), some (.int p.2), some (.int (wst p.2 s q).2), some (.int q.1), some (.int q.2)] (st ++ [.lst ((wst p.2 s q).1.map pairT)]) := by
  obtain ⟨S, hS⟩ : ∃ S, S = st ++ [SO.lst (s.1.map pairT)] := ⟨_, rfl⟩
  rw [← hS]
  unfold l_without_1
  have c : dAnd (dB (dBin aGt (dVar 8) (dVar 6))) (dB (dBin aLt (dVar 7) (dVar 5))) [some o, some t, some (.ref st.length), some g, some (.int p.1), some (.int p.2), some (.int s.2), some (.int q.1), some (.int q.2)] S = .ok (decide (s.2 < q.2) && decide (q.1 < p.2)) S :=
    and_run (b_run rfl) fun _ => b_run rfl
  have w : wst p.2 s q = if s.2 < q.2 ∧ q.1 < p.2 then (s.1 ++ (if s.2 < q.1 then [(s.2, q.1)] else []), max s.2 q.2) else s := rfl
  rw [w]
  by_cases h : s.2 < q.2 ∧ q.1 < p.2
  · rw [if_pos h]
    rw [decide_eq_true h.1, decide_eq_true h.2] at c
    refine if_t c ?_
    by_cases k : s.2 < q.1
    · rw [if_pos k]
      refine seq_run (if_t (b_run (bin_run rfl rfl (show _ = R.ok (D.bl (decide (s.2 < q.1))) S from rfl)) |>.trans (by rw [decide_eq_true k])) (app_to hS rfl (tup2 rfl rfl) (by rw [List.length_map]; exact hl))) ?_
      rw [List.map_append]
      exact asg_run (call_run (cons2 rfl rfl) (max_run _ _ _)) rfl
    · rw [if_neg k, List.append_nil]
      refine seq_run (if_f (b_run (bin_run rfl rfl (show _ = R.ok (D.bl (decide (s.2 < q.1))) S from rfl)) |>.trans (by rw [decide_eq_false k])) rfl) ?_
      rw [hS]
      exact asg_run (call_run (cons2 rfl rfl) (max_run _ _ _)) rfl
  · rw [if_neg h]
    rw [show (decide (s.2 < q.2) && decide (q.1 < p.2)) = false by rw [← Bool.decide_and]; exact decide_eq_false h] at c
    refine if_f c ?_
    rw [hS]; rfl
theorem wo_outer (o t : D) (p : Rw) (gs acc : List Rw) (e6 e7 e8 : Option D) {st : Store} (hl : acc.length + gs.length + 1 ≤ 16000000) :
    ∃ x y z, l_without_2 [some o, some t, some (.ref st.length), some (.tup (gs.map pairT)), some (.int p.1), some (.int p.2), e6, e7, e8] (st ++ [.lst (acc.map pairT)]) = .nx [some o, some t, some (.ref st.length), some (.tup (gs.map pairT)), some (.int p.1), some (.int p.2), x, y, z] (st ++ [.lst ((acc ++ woI p.1 p.2 gs).map pairT)]) := by
  obtain ⟨e', f1, f2⟩ := for_fold (ε := Option D × Option D) (gt := dgTup 2 (dgCons (dgName 7) (dgCons (dgName 8) (dgNil)))) (fb := l_without_1) pairT (fun (s : List Rw × Int) e => [some o, some t, some (.ref st.length), some (.tup (gs.map pairT)), some (.int p.1), some (.int p.2), some (.int s.2), e.1, e.2]) (fun s => st ++ [SO.lst (s.1.map pairT)]) (wst p.2) (fun s n => s.1.length + n ≤ 15999999) gs
    (fun q _ s e n hP => ⟨_, (some (.int q.1), some (.int q.2)), gt_pair 7 8 q _, .inl (wo_inner o t _ p q s (by omega)), by have := wst_len p.2 s q; omega⟩) (acc, p.1) (e7, e8) 0 (by show acc.length + (0 + gs.length) ≤ _; omega)
  have w := wst_fold p.2 gs acc p.1
  obtain ⟨F, hF⟩ : ∃ F, F = gs.foldl (wst p.2) (acc, p.1) := ⟨_, rfl⟩
  rw [← hF] at f1 f2 w
  refine ⟨some (.int F.2), e'.1, e'.2, ?_⟩
  unfold l_without_2
  refine seq_run (asg_run rfl rfl) (seq_run (for_run (it_tup rfl) f1) ?_)
  obtain ⟨S, hS⟩ : ∃ S, S = st ++ [SO.lst (F.1.map pairT)] := ⟨_, rfl⟩
  rw [← w]
  rw [← hS]
  by_cases k : F.2 < p.2
  · rw [if_pos k]
    refine if_t (b_run (bin_run rfl rfl (show _ = R.ok (D.bl (decide (F.2 < p.2))) S from rfl)) |>.trans (by rw [decide_eq_true k])) ?_
    rw [List.map_append]
    exact app_to hS rfl (tup2 rfl rfl) (by rw [List.length_map]; omega)
  · rw [if_neg k, List.append_nil]
    refine if_f (b_run (bin_run rfl rfl (show _ = R.ok (D.bl (decide (F.2 < p.2))) S from rfl)) |>.trans (by rw [decide_eq_false k])) ?_
    rw [hS]; rfl
theorem e_without {d e : D} {l m : List Rw} (hd : RD d l) (he : RD e m) (hl : l.length ≤ 1000) (hm : m.length ≤ 1000) (vl : Vl l) (vm : Vl m) {st : Store} (hst : stCl st.length st = true) : f_without [d, e] st = .ok (.tup ((wiI l m).map pairT)) st := by
  have jl := join_len l
  have jm := join_len m
  have stt : ∀ s : List D, True := fun _ => trivial
  obtain ⟨e', f1, _⟩ := for_fold (ε := Option D × Option D × Option D × Option D × Option D) (gt := dgTup 2 (dgCons (dgName 4) (dgCons (dgName 5) (dgNil)))) (fb := l_without_2) pairT (fun (_ : List Rw) x => [some d, some e, some (.ref st.length), some (.tup ((joinI m).map pairT)), x.1, x.2.1, x.2.2.1, x.2.2.2.1, x.2.2.2.2]) (fun acc => st ++ [SO.lst (acc.map pairT)]) (fun acc p => acc ++ woI p.1 p.2 (joinI m)) (fun acc n => acc.length + n * 1001 ≤ 2000000) (joinI l)
    (fun p _ acc x n hP => by
      obtain ⟨y, z, u, h⟩ := wo_outer d e p (joinI m) acc x.2.2.1 x.2.2.2.1 x.2.2.2.2 (st := st) (by omega)
      refine ⟨_, (some (.int p.1), some (.int p.2), y, z, u), gt_pair 4 5 p _, .inl h, ?_⟩
      have := wo_len p.1 p.2 (joinI m)
      rw [List.length_append]
      omega) [] (none, none, none, none, none) 0 (by show 0 + (0 + _) * 1001 ≤ _; omega)
  rw [foldl_app (fun p : Rw => woI p.1 p.2 (joinI m))] at f1
  have jo : ∀ (L : List D), f_joined [d] (st ++ [SO.lst L]) = .ok (.tup ((joinI l).map pairT)) (st ++ [SO.lst L]) → True := fun _ _ => trivial
  refine trim_tup (x := .lst ((wiI l m).map pairT)) (runB_rt ?_) (cls_pairs _ _) hst
  show b_without [some d, some e, none, none, none, none, none, none, none] st = _
  have hst2 : stCl (st ++ [SO.lst []]).length (st ++ [SO.lst []]) = true := stCl_lst hst rfl
  unfold b_without
  refine seq_run (asg_run nilT_run rfl) ?_
  refine seq_run (asg_run (call_run (cons1 rfl) (e_joined he hm vm hst2)) rfl) ?_
  refine seq_run (for_run (it_tup (call_run (cons1 rfl) (e_joined hd hl vl hst2))) f1) ?_
  exact ret_run (call_run (cons1 rfl) (tup_end _ _))
end K04

namespace K04
open PySem G
theorem wi_len (l m : List Rw) : (wiI l m).length ≤ l.length * (m.length + 1) := by
  have a := flat_len (fun p : Rw => woI p.1 p.2 (joinI m)) (m.length + 1) (fun p => by have := wo_len p.1 p.2 (joinI m); have := join_len m; omega) (joinI l)
  have b : (joinI l).length * (m.length + 1) ≤ l.length * (m.length + 1) := Nat.mul_le_mul_right _ (join_len l)
  exact Nat.le_trans a b
theorem e_either {d e : D} {l m : List Rw} (hd : RD d l) (he : RD e m) (hl : l.length ≤ 20) (hm : m.length ≤ 20) (vl : Vl l) (vm : Vl m) {st : Store} (hst : stCl st.length st = true) : f_either [d, e] st = .ok (.tup ((eiI l m).map pairT)) st := by
  have w1 := wi_len l m
  have w2 := wi_len m l
  have m1 : l.length * (m.length + 1) ≤ 20 * 21 := Nat.mul_le_mul hl (by omega)
  have m2 : m.length * (l.length + 1) ≤ 20 * 21 := Nat.mul_le_mul hm (by omega)
  have v1 := (wi_ok vl vm).1.1
  have v2 := (wi_ok vm vl).1.1
  refine runB_rt ?_
  show b_either [some d, some e] st = _
  unfold b_either
  refine ret_run (call_run (cons1 (bin_run (call_run (cons2 rfl rfl) (e_without hd he (by omega) (by omega) vl vm hst)) (call_run (cons2 rfl rfl) (e_without he hd (by omega) (by omega) vm vl hst)) ?_)) (e_joined (rows := wiI l m ++ wiI m l) (.inr rfl) (by rw [List.length_append]; omega) (fun p hp => by
    rcases List.mem_append.mp hp with hp | hp
    · exact v1 p hp
    · exact v2 p hp) hst))
  show (if _ then R.ok (D.tup _) st else R.bad) = _
  rw [if_pos (by rw [List.length_map, List.length_map]; omega), List.map_append]
def gapI (rows : List Rw) (s e : Int) : List Rw := wiI [(s, e)] rows
theorem e_gaps {d : D} {l : List Rw} (hd : RD d l) (hl : l.length ≤ 1000) (vl : Vl l) {s e : Int} (h : s < e) {st : Store} (hst : stCl st.length st = true) : f_gaps_in [d, .int s, .int e] st = .ok (.tup ((gapI l s e).map pairT)) st := by
  refine runB_rt ?_
  show b_gaps_in [some d, some (.int s), some (.int e)] st = _
  unfold b_gaps_in
  exact ret_run (call_run (cons2 (tup1 (tup2 rfl rfl)) rfl) (e_without (l := [(s, e)]) (.inr rfl) hd (by show 1 ≤ _; omega) hl (fun p hp => by rw [List.mem_singleton.mp hp]; exact h) vl hst))
theorem e_holds {d : D} {l : List Rw} (hd : RD d l) (hl : l.length ≤ 1000) (vl : Vl l) (t : Int) (st : Store) : f_holds_at [d, .int t] st = .ok (.bl (atR l t)) st := by
  refine runB_rt ?_
  show b_holds_at [some d, some (.int t), none, none] st = _
  unfold b_holds_at
  refine seq_run (drop_run (call_run (cons1 rfl) (e_check hd hl vl st))) (ret_run ?_)
  exact any_run pairT (fun p => [some d, some (.int t), some (.int p.1), some (.int p.2)]) (fun p => inR p t) l (it_rows hd rfl) (by omega) fun p _ => ⟨rfl, chain_run rfl rfl rfl (fun _ => rfl) (fun _ => rfl)⟩
theorem tupG_run {fi : DI} {gt : DG} {ft : DT} {fe : DE} {vs : List Nat} {env : G.Env} {st st' : Store} {ds out : List D} (h1 : fi env st = .ok (ds, none) st) (h2 : ds.length ≤ 16777216) (h3 : lcD gt ft fe none ds (wipeE env vs) st = .ok out st) (h4 : out.length ≤ 16777216) : dTupG (dGx fi gt ft fe vs) env st = .ok (.tup out) st := by
  unfold dTupG dGx
  rw [h1]
  show ((if ds.length ≤ 16777216 then lcD gt ft fe none ds (wipeE env vs) st else R.bad).b fun xs st => if xs.length ≤ 16777216 then R.ok (D.tup xs) st else .bad) = _
  rw [if_pos h2, h3]
  show (if out.length ≤ 16777216 then R.ok (D.tup out) st else .bad) = _
  rw [if_pos h4]
theorem e_moved {d : D} {l : List Rw} (hd : RD d l) (hl : l.length ≤ 1000) (vl : Vl l) (k : Int) (st : Store) : f_moved_by [d, .int k] st = .ok (.tup ((l.map fun p => (p.1 + k, p.2 + k)).map pairT)) st := by
  refine runB_rt ?_
  show b_moved_by [some d, some (.int k), none, none] st = _
  unfold b_moved_by
  refine seq_run (drop_run (call_run (cons1 rfl) (e_check hd hl vl st))) (ret_run ?_)
  refine tupG_run (st' := st) (it_rows hd rfl) (by rw [List.length_map]; omega) ?_ (by rw [List.length_map, List.length_map]; omega)
  rw [List.map_map]
  exact lcM pairT (fun p => pairT (p.1 + k, p.2 + k)) (fun p => [some d, some (.int k), some (.int p.1), some (.int p.2)]) l fun p _ => ⟨rfl, tup2 rfl rfl⟩
def widR (l : List Rw) (a b : Int) : List Rw := (l.filter fun p => decide (p.1 - a < p.2 + b)).map fun p => (p.1 - a, p.2 + b)
theorem wid_v (l : List Rw) (a b : Int) : Vl (widR l a b) := fun p hp => by
  unfold widR at hp
  obtain ⟨q, hq, rfl⟩ := List.mem_map.mp hp
  exact of_decide_eq_true (List.mem_filter.mp hq).2
theorem wid_len (l : List Rw) (a b : Int) : (widR l a b).length ≤ l.length := by
  unfold widR
  rw [List.length_map]
  exact List.length_filter_le _ _
theorem e_wider {d : D} {l : List Rw} (hd : RD d l) (hl : l.length ≤ 1000) (vl : Vl l) (a b : Int) {st : Store} (hst : stCl st.length st = true) : f_wider [d, .int a, .int b] st = .ok (.tup ((joinI (widR l a b)).map pairT)) st := by
  have q := lcF_run (fi := dIt (dVar 0)) (gt := dgTup 2 (dgCons (dgName 3) (dgCons (dgName 4) (dgNil)))) (ft := dB (dBin aGt (dBin (aAdd false) (dVar 4) (dVar 2)) (dBin aSub (dVar 3) (dVar 1)))) (fe := y_wider_1) (vs := [3, 4]) (env := [some d, some (.int a), some (.int b), none, none]) (st := st)
    pairT (fun p => pairT (p.1 - a, p.2 + b)) (fun p => [some d, some (.int a), some (.int b), some (.int p.1), some (.int p.2)]) (fun p => decide (p.1 - a < p.2 + b)) l (it_rows hd rfl) (by omega) fun p _ => ⟨rfl, rfl, fun _ => tup2 rfl rfl⟩
  refine runB_rt ?_
  show b_wider [some d, some (.int a), some (.int b), none, none] st = _
  unfold b_wider
  refine seq_run (drop_run (call_run (cons1 rfl) (e_check hd hl vl st))) (ret_run (call_run (cons1 q) (e_joined (rows := widR l a b) (.inl ?_) (by have := wid_len l a b; omega) (wid_v l a b) hst)))
  unfold widR
  rw [List.map_map]
  rfl
theorem bnd_of {l : List Rw} (h : N l) {lo hi : Int} (ha : ∀ t, atR l t = true → lo ≤ t ∧ t < hi) : ∀ p ∈ l, lo ≤ p.1 ∧ p.2 ≤ hi := fun p hp => by
  have v := h.1 p hp
  have a := ha p.1 (atR_iff.mpr ⟨p, hp, Int.le_refl _, v⟩)
  have b := ha (p.2 - 1) (atR_iff.mpr ⟨p, hp, by omega, by omega⟩)
  omega
theorem inL_ok {i : Int} (h : -1000000000000000 ≤ i ∧ i ≤ 1000000000000000) : inL i = true := by
  unfold inL
  rw [decide_eq_true (by omega), decide_eq_true (by omega)]
  rfl
theorem sum_ok {M : Int} : ∀ (ns : List Int) (z : Int), (∀ n ∈ ns, 0 ≤ n ∧ n ≤ M) → 0 ≤ z → z + M * (ns.length : Nat) ≤ 1000000000000000 → 0 ≤ M → sumOk z ns = true
  | [], _, _, _, _, _ => by unfold sumOk; rfl
  | n :: ns, z, h, h0, h1, h2 => by
    have a := h n List.mem_cons_self
    have p : 0 ≤ M * (ns.length : Nat) := Int.mul_nonneg h2 (Int.natCast_nonneg _)
    rw [List.length_cons, Int.natCast_add, Int.mul_add, show M * ((1 : Nat) : Int) = M from Int.mul_one M] at h1
    have ih := sum_ok ns (z + n) (fun m hm => h m (List.mem_cons_of_mem _ hm)) (by omega)
    unfold sumOk
    rw [ih (by omega) h2, inL_ok (by omega), inL_ok (by omega)]
    rfl
theorem e_length {d : D} {l : List Rw} (hd : RD d l) (hl : l.length ≤ 1000) (vl : Vl l) (hb : ∀ p ∈ l, -1000 ≤ p.1 ∧ p.2 ≤ 1000) {st : Store} (hst : stCl st.length st = true) : f_length_of [d] st = .ok (.int (lenI (joinI l))) st := by
  obtain ⟨j1, j2⟩ := join_ok vl
  have jb := bnd_of j1 (lo := -1000) (hi := 1000) fun t ht => by
    rw [j2] at ht
    obtain ⟨p, hp, h1, h2⟩ := atR_iff.mp ht
    have := hb p hp
    omega
  have jl := join_len l
  refine runB_rt ?_
  show b_length_of [some d, none, none] st = _
  unfold b_length_of
  refine ret_run ?_
  have q := lcM (gt := dgTup 2 (dgCons (dgName 1) (dgCons (dgName 2) (dgNil)))) (fe := y_length_of_1) (env := [some d, none, none]) (st := st) pairT (fun p => D.int (p.2 - p.1)) (fun p => [some d, some (.int p.1), some (.int p.2)]) (joinI l) fun p _ => ⟨rfl, rfl⟩
  unfold dSumG dGx
  rw [it_tup (call_run (cons1 rfl) (e_joined hd hl vl hst)), R.bind_ok, R.bind_ok]
  show (R.b (if ((joinI l).map pairT).length ≤ 16777216 then lcD (dgTup 2 (dgCons (dgName 1) (dgCons (dgName 2) (dgNil)))) dYes y_length_of_1 none ((joinI l).map pairT) [some d, none, none] st else R.bad) _) = _
  rw [if_pos (by rw [List.length_map]; omega), q, R.b_ok]
  have e : (joinI l).map (fun p => D.int (p.2 - p.1)) = ((joinI l).map fun p => p.2 - p.1).map D.int := by rw [List.map_map]; rfl
  rw [e, ints_map]
  dsimp only
  rw [if_pos (sum_ok (M := 2000) _ 0 (fun n hn => by
    obtain ⟨p, hp, rfl⟩ := List.mem_map.mp hn
    have := jb p hp
    have := j1.1 p hp
    omega) (Int.le_refl _) (by rw [List.length_map]; omega) (by decide))]
  rfl
/-! how they lie -/
def sD : Option String → D
  | none => .non
  | some s => .str (s : Str)
theorem chain3_run {h h' h'' : D → D → Store → R D} {fa fb fc fd : DE} {env : G.Env} {st : Store} {x y z u : D} {p q r : Bool} (h1 : fa env st = .ok x st) (h2 : fb env st = .ok y st) (h3 : h x y st = .ok (.bl p) st) (h4 : fc env st = .ok z st) (h5 : h' y z st = .ok (.bl q) st) (h6 : fd env st = .ok u st) (h7 : h'' z u st = .ok (.bl r) st) : dChain3 h h' h'' fa fb fc fd env st = .ok (.bl (p && (q && r))) st := by
  unfold dChain3
  rw [h1, R.bind_ok, h2, R.bind_ok, h3, R.bind_ok]
  cases p with
  | false => rfl
  | true =>
    dsimp only
    rw [h4, R.bind_ok, h5, R.bind_ok]
    cases q with
    | false => rfl
    | true =>
      dsimp only
      rw [h6, R.bind_ok, h7]
      try rfl
theorem eq_pair (p q : Rw) (st : Store) : aEq (pairT p) (pairT q) st = .ok (.bl (decide (p = q))) st := by
  have : aEq (pairT p) (pairT q) st = .ok (.bl ((p.1 == q.1) && ((p.2 == q.2) && true))) st := rfl
  rw [this, Bool.and_true]
  congr 2
  rw [Bool.eq_iff_iff, Bool.and_eq_true, beq_iff_eq, beq_iff_eq, decide_eq_true_eq]
  exact ⟨fun h => Prod.ext h.1 h.2, fun h => by rw [h]; exact ⟨rfl, rfl⟩⟩
theorem eq_int (i j : Int) (st : Store) : aEq (.int i) (.int j) st = .ok (.bl (decide (i = j))) st := by
  have : aEq (.int i) (.int j) st = .ok (.bl (i == j)) st := rfl
  rw [this]
  congr 2
theorem e_plain (p q : Rw) (st : Store) : f_plain_lies [pairT p, pairT q] st = .ok (sD (plI p q)) st := by
  refine runB_rt ?_
  show b_plain_lies [some (pairT p), some (pairT q)] st = _
  have i0 : ∀ (i : Nat) (k : Int) (d : D), dBin aIx (dVar i) (dC (.int k)) [some (pairT p), some (pairT q)] st = dBin aIx (dVar i) (dC (.int k)) [some (pairT p), some (pairT q)] st := fun _ _ _ => rfl
  have a0 : dBin aIx (dVar 0) (dC (.int 0)) [some (pairT p), some (pairT q)] st = .ok (.int p.1) st := rfl
  have a1 : dBin aIx (dVar 0) (dC (.int 1)) [some (pairT p), some (pairT q)] st = .ok (.int p.2) st := rfl
  have b0 : dBin aIx (dVar 1) (dC (.int 0)) [some (pairT p), some (pairT q)] st = .ok (.int q.1) st := rfl
  have b1 : dBin aIx (dVar 1) (dC (.int 1)) [some (pairT p), some (pairT q)] st = .ok (.int q.2) st := rfl
  have tst : ∀ {h : D → D → Store → R D} {fa fb : DE} {x y : D} {b : Bool}, fa [some (pairT p), some (pairT q)] st = .ok x st → fb [some (pairT p), some (pairT q)] st = .ok y st → h x y st = .ok (.bl b) st → dB (dBin h fa fb) [some (pairT p), some (pairT q)] st = .ok b st := fun h1 h2 h3 => b_run (bin_run h1 h2 h3)
  have t1 := tst (fa := dVar 0) (fb := dVar 1) rfl rfl (eq_pair p q st)
  have t2 := tst (h := aLt) a1 b0 rfl
  have t3 := tst a1 b0 (eq_int _ _ st)
  have t4 := tst a0 b0 (eq_int _ _ st)
  have t5 := tst (h := aLt) a1 b1 rfl
  have t6 := tst a1 b1 (eq_int _ _ st)
  have t7 := tst (h := aGt) a0 b0 rfl
  have t8 : dB (dChain3 aLt aLt aLt (dBin aIx (dVar 0) (dC (.int 0))) (dBin aIx (dVar 1) (dC (.int 0))) (dBin aIx (dVar 0) (dC (.int 1))) (dBin aIx (dVar 1) (dC (.int 1)))) [some (pairT p), some (pairT q)] st = .ok (decide (p.1 < q.1) && (decide (q.1 < p.2) && decide (p.2 < q.2))) st := b_run (chain3_run a0 b0 rfl a1 rfl b1 rfl)
  have t9 := and_run (y := decide (p.2 < q.2)) t7 fun _ => t5
  unfold b_plain_lies plI
  by_cases c1 : p = q
  · rw [if_pos c1]; rw [decide_eq_true c1] at t1
    exact seq_rt (if_t t1 (ret_run rfl))
  rw [if_neg c1]; rw [decide_eq_false c1] at t1
  refine seq_run (if_f t1 rfl) ?_
  by_cases c2 : p.2 < q.1
  · rw [if_pos c2]; rw [decide_eq_true c2] at t2
    exact seq_rt (if_t t2 (ret_run rfl))
  rw [if_neg c2]; rw [decide_eq_false c2] at t2
  refine seq_run (if_f t2 rfl) ?_
  by_cases c3 : p.2 = q.1
  · rw [if_pos c3]; rw [decide_eq_true c3] at t3
    exact seq_rt (if_t t3 (ret_run rfl))
  rw [if_neg c3]; rw [decide_eq_false c3] at t3
  refine seq_run (if_f t3 rfl) ?_
  by_cases c4 : p.1 = q.1
  · rw [if_pos c4]; rw [decide_eq_true c4] at t4
    refine seq_rt (if_t t4 (ret_run ?_))
    by_cases c5 : p.2 < q.2
    · rw [if_pos c5]; rw [decide_eq_true c5] at t5
      exact ife_t t5 rfl
    · rw [if_neg c5]; rw [decide_eq_false c5] at t5
      exact ife_f t5 rfl
  rw [if_neg c4]; rw [decide_eq_false c4] at t4
  refine seq_run (if_f t4 rfl) ?_
  by_cases c5 : p.2 = q.2
  · rw [if_pos c5]; rw [decide_eq_true c5] at t6
    refine seq_rt (if_t t6 (ret_run ?_))
    by_cases c6 : p.1 > q.1
    · rw [if_pos c6]; rw [decide_eq_true (show q.1 < p.1 from c6)] at t7
      exact ife_t t7 rfl
    · rw [if_neg c6]; rw [decide_eq_false (show ¬ q.1 < p.1 from c6)] at t7
      exact ife_f t7 rfl
  rw [if_neg c5]; rw [decide_eq_false c5] at t6
  refine seq_run (if_f t6 rfl) ?_
  rw [← Bool.decide_and] at t9
  by_cases c6 : p.1 > q.1 ∧ p.2 < q.2
  · rw [if_pos c6]; rw [decide_eq_true (show q.1 < p.1 ∧ p.2 < q.2 from c6)] at t9
    exact seq_rt (if_t t9 (ret_run rfl))
  rw [if_neg c6]; rw [decide_eq_false (show ¬ (q.1 < p.1 ∧ p.2 < q.2) from c6)] at t9
  refine seq_run (if_f t9 rfl) (ret_run ?_)
  rw [← Bool.decide_and, ← Bool.decide_and] at t8
  by_cases c7 : p.1 < q.1 ∧ q.1 < p.2 ∧ p.2 < q.2
  · rw [if_pos c7]; rw [decide_eq_true c7] at t8
    exact ife_t t8 rfl
  · rw [if_neg c7]; rw [decide_eq_false c7] at t8
    exact ife_f t8 rfl
def liesD (p q : Rw) : D := match plI p q with
  | some s => .tup [.str (s : Str), .bl false]
  | none => .tup [sD (plI q p), .bl true]
theorem e_how {p q : Rw} (hp : p.1 < p.2) (hq : q.1 < q.2) (st : Store) : f_how_lies [pairT p, pairT q] st = .ok (liesD p q) st := by
  refine runB_rt ?_
  show b_how_lies [some (pairT p), some (pairT q), none] st = _
  unfold b_how_lies
  refine seq_run (drop_run (call_run (cons1 (tup2 rfl rfl)) (e_check (rows := [p, q]) (.inr rfl) (by show 2 ≤ _; omega) (fun r hr => by
    rcases List.mem_cons.mp hr with rfl | hr
    · exact hp
    · rw [List.mem_singleton.mp hr]; exact hq) st))) ?_
  refine seq_run (asg_run (call_run (cons2 rfl rfl) (e_plain p q st)) rfl) ?_
  unfold liesD
  cases h : plI p q with
  | some s => exact seq_rt (if_t (b_run rfl) (ret_run (tup2 rfl rfl)))
  | none => exact seq_run (if_f (b_run rfl) rfl) (ret_run (tup2 (call_run (cons2 rfl rfl) (e_plain q p st)) rfl))
end K04

namespace K04
open PySem G L2
/-! the cuts -/
def putI (ns : List Int) (i : Int) : List Int := if (ns.any fun x => decide (x = i)) = true then ns else ns ++ [i]
def inlK (ns : List Int) : List Key := ns.map .inl
theorem any_inl (ns : List Int) (i : Int) : ((inlK ns).any fun x => decide (x = .inl i)) = ns.any fun x => decide (x = i) := by
  unfold inlK
  rw [List.any_map]
  congr 1
  funext x
  show decide ((Sum.inl x : Key) = .inl i) = decide (x = i)
  rw [Bool.eq_iff_iff, decide_eq_true_eq, decide_eq_true_eq]
  exact ⟨fun h => Sum.inl.inj h, fun h => by rw [h]⟩
theorem putKs_inl (ns : List Int) (i : Int) : putKs (inlK ns) (.inl i) = inlK (putI ns i) := by
  unfold putKs putI
  rw [any_inl]
  split
  · rfl
  · unfold inlK; rw [List.map_append]; rfl
theorem replD_len (k : Key) (x : D) : ∀ (kk : List Key) (ds : List D), kk.length = ds.length → (replD k x kk ds).length = ds.length
  | [], [], _ => rfl
  | [], _ :: _, h => by cases h
  | _ :: _, [], h => by cases h
  | k' :: kk, d :: ds, h => by
    show (replD k x kk ds).length + 1 = ds.length + 1
    rw [replD_len k x kk ds (by simpa using h)]
theorem putDs_len (ns : List Int) (vs : List D) (i : Int) (x : D) (h : ns.length = vs.length) : (putI ns i).length = (putDs (inlK ns) vs (.inl i) x).length := by
  unfold putDs putI
  rw [any_inl]
  split
  · rw [replD_len _ _ _ _ (by unfold inlK; rw [List.length_map]; exact h)]; exact h
  · rw [List.length_append, List.length_append, h]; rfl
theorem dcD_run {α : Type} {gt : DG} {fk fe : DE} {env : G.Env} {st : Store} (mk : α → D) (e' : α → G.Env) (key : α → Int) (v : α → D) : ∀ (l : List α), (∀ a ∈ l, gt (mk a) env = some (e' a) ∧ fk (e' a) st = .ok (.int (key a)) st ∧ fe (e' a) st = .ok (v a) st) →
    ∀ (ns : List Int) (vs : List D), ns.length = vs.length → ∃ vs', dcD gt dYes fk fe none (l.map mk) env st (inlK ns) vs = .ok (.dic ((inlK (l.foldl (fun ns a => putI ns (key a)) ns)).map .k) vs') st ∧ (l.foldl (fun ns a => putI ns (key a)) ns).length = vs'.length
  | [], _, ns, vs, hl => ⟨vs, by simp [dcD, gdOk], hl⟩
  | a :: l, h, ns, vs, hl => by
    obtain ⟨h1, h2, h3⟩ := h a List.mem_cons_self
    obtain ⟨vs', i1, i2⟩ := dcD_run mk e' key v l (fun b hb => h b (List.mem_cons_of_mem _ hb)) (putI ns (key a)) (putDs (inlK ns) vs (.inl (key a)) (v a)) (putDs_len _ _ _ _ hl)
    refine ⟨vs', ?_, i2⟩
    simp only [List.map_cons, dcD, gdOk, if_true, h1, dYes, R.b_ok, h2, h3, keyD, putKs_inl, List.foldl_cons]
    exact i1
theorem mergeD_inl : ∀ (ms : List Int) (ws : List D) (ns : List Int) (vs : List D), ms.length = ws.length → ns.length = vs.length → (mergeD (inlK ns) vs (inlK ms) ws).1 = inlK (ms.foldl putI ns)
  | [], ws, ns, vs, _, _ => by cases ws <;> rfl
  | m :: ms, [], _, _, h, _ => by cases h
  | m :: ms, w :: ws, ns, vs, h, h' => by
    show (mergeD (putKs (inlK ns) (.inl m)) (putDs (inlK ns) vs (.inl m) w) (inlK ms) ws).1 = _
    rw [putKs_inl, mergeD_inl ms ws (putI ns m) _ (by simpa using h) (putDs_len _ _ _ _ h')]
    rfl
theorem keysK_inl : ∀ ns : List Int, keysK ((inlK ns).map .k) = some (inlK ns)
  | [] => rfl
  | n :: ns => by
    show (keysK ((inlK ns).map .k)).map ((.inl n : Key) :: ·) = _
    rw [keysK_inl ns]; rfl
theorem intKs_inl : ∀ ns : List Int, intKs ((inlK ns).map .k) = some ns
  | [] => rfl
  | n :: ns => by
    show (intKs ((inlK ns).map .k)).map (n :: ·) = _
    rw [intKs_inl ns]; rfl
theorem putI_mem {ns : List Int} {i x : Int} : x ∈ putI ns i ↔ x ∈ ns ∨ x = i := by
  unfold putI
  split
  · rename_i c
    rw [List.any_eq_true] at c
    obtain ⟨y, hy, e⟩ := c
    rw [decide_eq_true_eq] at e
    subst e
    exact ⟨.inl, fun h => by rcases h with h | rfl <;> assumption⟩
  · rw [List.mem_append, List.mem_singleton]
theorem putI_nodup {ns : List Int} {i : Int} (h : ns.Nodup) : (putI ns i).Nodup := by
  unfold putI
  split
  · exact h
  · rename_i c
    rw [List.nodup_append]
    refine ⟨h, List.nodup_cons.mpr ⟨(fun x => by cases x), List.nodup_nil⟩, fun a ha b hb e => c ?_⟩
    rw [List.mem_singleton.mp hb] at e
    rw [List.any_eq_true]
    exact ⟨a, ha, by rw [decide_eq_true_eq]; exact e⟩
theorem putI_len (ns : List Int) (i : Int) : (putI ns i).length ≤ ns.length + 1 := by
  unfold putI
  split
  · omega
  · rw [List.length_append]; exact Nat.le_refl _
theorem putF : ∀ (ms ns : List Int), (∀ x, x ∈ ms.foldl putI ns ↔ x ∈ ns ∨ x ∈ ms) ∧ (ns.Nodup → (ms.foldl putI ns).Nodup) ∧ (ms.foldl putI ns).length ≤ ns.length + ms.length
  | [], ns => ⟨fun x => by simp, id, Nat.le_refl _⟩
  | m :: ms, ns => by
    obtain ⟨h1, h2, h3⟩ := putF ms (putI ns m)
    refine ⟨fun x => ?_, fun h => h2 (putI_nodup h), ?_⟩
    · rw [List.foldl_cons, h1, putI_mem, List.mem_cons, or_assoc]
    · have := putI_len ns m
      rw [List.foldl_cons, List.length_cons]
      omega
def keysI (rows : List Rw) : List Int := ((rows.map (·.2)).foldl putI []).foldl putI ((rows.map (·.1)).foldl putI [])
def cutsI (rows : List Rw) : List Int := sortI (keysI rows)
theorem cuts_ok (rows : List Rw) : (cutsI rows).Pairwise (· < ·) ∧ (∀ p ∈ rows, p.1 ∈ cutsI rows ∧ p.2 ∈ cutsI rows) ∧ (keysI rows).length ≤ 2 * rows.length := by
  obtain ⟨a1, a2, a3⟩ := putF (rows.map (·.1)) []
  obtain ⟨b1, b2, b3⟩ := putF (rows.map (·.2)) []
  obtain ⟨c1, c2, c3⟩ := putF ((rows.map (·.2)).foldl putI []) ((rows.map (·.1)).foldl putI [])
  have nd : (cutsI rows).Nodup := (sortI_perm _).nodup_iff.mpr (c2 (a2 List.nodup_nil))
  have me : ∀ x, x ∈ cutsI rows ↔ x ∈ rows.map (·.1) ∨ x ∈ rows.map (·.2) := fun x => by
    rw [show x ∈ cutsI rows ↔ x ∈ keysI rows from (sortI_perm _).mem_iff]
    unfold keysI
    rw [c1, a1, b1]
    simp
  refine ⟨((sortI_sorted _).and nd).imp fun h => by have := h.1; have := h.2; omega, fun p hp => ⟨(me _).mpr (.inl (List.mem_map.mpr ⟨p, hp, rfl⟩)), (me _).mpr (.inr (List.mem_map.mpr ⟨p, hp, rfl⟩))⟩, ?_⟩
  unfold keysI
  rw [List.length_map] at a3 b3
  have : ([] : List Int).length = 0 := rfl
  omega
theorem dc_run {α : Type} {fi : DI} {gt : DG} {fk fe : DE} {vs : List Nat} {env : G.Env} {st : Store} (mk : α → D) (e' : α → G.Env) (key : α → Int) (v : α → D) (l : List α) (hi : fi env st = .ok (l.map mk, none) st) (hl : l.length ≤ 16777216)
    (h : ∀ a ∈ l, gt (mk a) (wipeE env vs) = some (e' a) ∧ fk (e' a) st = .ok (.int (key a)) st ∧ fe (e' a) st = .ok (v a) st) : ∃ ws, dDc fi gt dYes fk fe vs env st = .ok (.dic ((inlK ((l.map key).foldl putI [])).map .k) ws) st ∧ ((l.map key).foldl putI []).length = ws.length := by
  obtain ⟨ws, i1, i2⟩ := dcD_run (gt := gt) (fk := fk) (fe := fe) (env := wipeE env vs) (st := st) mk e' key v l h [] [] rfl
  refine ⟨ws, ?_, ?_⟩
  · unfold dDc
    rw [hi, R.bind_ok, if_pos (by rw [List.length_map]; exact hl)]
    rw [List.foldl_map]
    exact i1
  · rw [List.foldl_map]; exact i2
theorem or_dic (ns ms : List Int) (vs ws : List D) (h1 : ns.length = vs.length) (h2 : ms.length = ws.length) (hl : ns.length + ms.length ≤ 1000) (st : Store) : ∃ us, aOrD (.dic ((inlK ns).map .k) vs) (.dic ((inlK ms).map .k) ws) st = .ok (.dic ((inlK (ms.foldl putI ns)).map .k) us) st := by
  refine ⟨(mergeD (inlK ns) vs (inlK ms) ws).2, ?_⟩
  show (match keysK ((inlK ns).map .k), keysK ((inlK ms).map .k) with
    | some kk, some ll => if ((inlK ns).map HK.k).length + ((inlK ms).map HK.k).length ≤ 16777216 then R.ok (D.dic ((mergeD kk vs ll ws).1.map .k) (mergeD kk vs ll ws).2) st else .bad
    | _, _ => .bad) = _
  rw [keysK_inl, keysK_inl]
  dsimp only
  rw [if_pos (by unfold inlK; simp only [List.length_map]; omega), mergeD_inl ms ws ns vs h2 h1]
theorem sortedK_run (ns : List Int) (us : List D) (hl : ns.length < 64) (st : Store) : bSortedK false [.dic ((inlK ns).map .k) us] st = .ok (.lst ((sortI ns).map .int)) st := by
  show (match intKs ((inlK ns).map .k) with
      | some ns => if ns.length < 64 then mkL false ((sortI ns).map .int) st else .bad
      | none => .bad) = _
  rw [intKs_inl]
  dsimp only
  rw [if_pos hl]
  rfl
theorem tail_cut (L : List D) : cutD L (some 1) none = L.tail := by
  cases L with
  | nil => rfl
  | cons x xs =>
    unfold cutD
    have h1 : HT.sIx (x :: xs).length 0 (some 1) = 1 := by
      unfold HT.sIx
      simp
      try omega
    have h2 : HT.sIx (x :: xs).length (x :: xs).length none = (x :: xs).length := by
      unfold HT.sIx
      simp
    rw [h1, h2]
    show xs.take (xs.length + 1 - 1) = xs
    exact List.take_of_length_le (Nat.le_refl _)
theorem zip_pairs : ∀ (xs ys : List Int), zipD (xs.map .int) (ys.map .int) = (xs.zip ys).map pairT
  | [], ys => by cases ys <;> rfl
  | x :: xs, [] => rfl
  | x :: xs, y :: ys => by
    show D.tup [.int x, .int y] :: zipD (xs.map .int) (ys.map .int) = _
    rw [zip_pairs xs ys]; rfl
/-! how many -/
def triT (r : Rt) : D := .tup [.int r.1, .int r.2.1, .int r.2.2]
theorem dats_tri : ∀ l : List Rt, D.dats (l.map triT) = true
  | [] => rfl
  | p :: l => by
    show (true && (true && (true && true)) && D.dats (l.map triT)) = true
    rw [dats_tri l]; rfl
theorem deps_tri : ∀ l : List Rt, D.deps (l.map triT) ≤ 1
  | [] => by show 0 ≤ 1; omega
  | p :: l => by
    have := deps_tri l
    show max (max 0 (max 0 (max 0 0)) + 1) (D.deps (l.map triT)) ≤ 1
    omega
theorem cls_tri (n : Nat) : ∀ l : List Rt, D.cls n (l.map triT) = true
  | [] => rfl
  | p :: l => by
    show (true && (true && (true && true)) && D.cls n (l.map triT)) = true
    rw [cls_tri n l]; rfl
theorem hstep_snoc (rows : List Rw) (A : List Rt) (q : Rt) (c : Rw) : hstep rows (A ++ [q]) c = if 0 < covI rows c.1 c.2 then (if q.2.1 = c.1 ∧ q.2.2 = covI rows c.1 c.2 then A ++ [(q.1, c.2, covI rows c.1 c.2)] else A ++ [q] ++ [(c.1, c.2, covI rows c.1 c.2)]) else A ++ [q] := by
  unfold hstep
  rw [List.getLast?_concat]
  simp only [List.dropLast_concat]
theorem hstep_len (rows : List Rw) (acc : List Rt) (c : Rw) : (hstep rows acc c).length ≤ acc.length + 1 := by
  rcases List.eq_nil_or_concat acc with rfl | ⟨A, q, rfl⟩
  · unfold hstep
    split
    · exact Nat.le_refl _
    · exact Nat.zero_le _
  · rw [List.concat_eq_append, hstep_snoc]
    split
    · split <;> simp
    · omega
theorem len_run {α : Type} (mk : α → D) (l : List α) (st : Store) : bLen [.lst (l.map mk)] st = .ok (.int ((l.length : Nat) : Int)) st := by
  show R.ok (D.int (((l.map mk).length : Nat) : Int)) st = _
  rw [List.length_map]
theorem cov_run {d : D} {rows : List Rw} (hd : RD d rows) (hl : rows.length ≤ 1000) {cu fo ro x6 x7 x8 : Option D} (s e : Int) (st : Store) :
    dCall bLen (dCons (dLc false (dIt (dVar 0)) (dgTup 2 (dgCons (dgName 7) (dgCons (dgName 8) (dgNil)))) (dAnd (dB (dBin aLeT (dVar 7) (dVar 4))) (dB (dBin aLeT (dVar 5) (dVar 8)))) y_how_many_at_1 [7, 8]) (dNil)) [some d, cu, fo, ro, some (.int s), some (.int e), x6, x7, x8] st = .ok (.int (covI rows s e)) st := by
  refine call_run (cons1 (lcF_run pairT (fun _ => D.int 1) (fun p => [some d, cu, fo, ro, some (.int s), some (.int e), x6, some (.int p.1), some (.int p.2)]) (fun p => decide (p.1 ≤ s) && decide (e ≤ p.2)) rows (it_rows hd rfl) (by omega) fun p _ => ⟨rfl, and_run (b_run rfl) (fun _ => b_run rfl), fun _ => rfl⟩)) ?_
  exact len_run _ _ st
theorem hm_step {d cu : D} {rows : List Rw} (hd : RD d rows) (hl : rows.length ≤ 1000) (acc : List Rt) (c : Rw) (x3 x6 x7 x8 : Option D) {st : Store} (ha : acc.length < 16777216) :
    l_how_many_at_1 [some d, some cu, some (.ref st.length), x3, some (.int c.1), some (.int c.2), x6, x7, x8] (st ++ [.lst (acc.map triT)]) = .nx [some d, some cu, some (.ref st.length), x3, some (.int c.1), some (.int c.2), some (.int (covI rows c.1 c.2)), x7, x8] (st ++ [.lst ((hstep rows acc c).map triT)]) := by
  obtain ⟨S, hS⟩ : ∃ S, S = st ++ [SO.lst (acc.map triT)] := ⟨_, rfl⟩
  have hn : lstAt S st.length = some (acc.map triT) := by rw [hS]; exact lst_end _ _
  have hse : ∀ L, S.set st.length (.lst L) = st ++ [.lst L] := fun L => by rw [hS]; exact set_end _ _ _
  have ne := ne_nil hn (dats_tri acc) (by have := deps_tri acc; omega)
  rw [← hS]
  obtain ⟨m, hm⟩ : ∃ m, m = covI rows c.1 c.2 := ⟨_, rfl⟩
  unfold l_how_many_at_1
  refine seq_run (asg_run (cov_run hd hl c.1 c.2 S) rfl) ?_
  rw [← hm]
  obtain ⟨env, he⟩ : ∃ env : G.Env, env = [some d, some cu, some (.ref st.length), x3, some (.int c.1), some (.int c.2), some (.int m), x7, x8] := ⟨_, rfl⟩
  show dIfS _ _ _ [some d, some cu, some (.ref st.length), x3, some (.int c.1), some (.int c.2), some (.int m), x7, x8] S = _
  rw [← he]
  have v2 : dVar 2 env S = .ok (.ref st.length) S := by rw [he]; rfl
  have v4 : dVar 4 env S = .ok (.int c.1) S := by rw [he]; rfl
  have v5 : dVar 5 env S = .ok (.int c.2) S := by rw [he]; rfl
  have v6 : dVar 6 env S = .ok (.int m) S := by rw [he]; rfl
  have t0 : dB (dBin aGt (dVar 6) (dC (.int 0))) env S = .ok (decide (0 < m)) S := b_run (bin_run v6 rfl rfl)
  have add : 0 < m → dIfS (dB (dBin aGt (dVar 6) (dC (.int 0)))) (dDrop (dAppend (dVar 2) (dTup (dCons (dVar 4) (dCons (dVar 5) (dCons (dVar 6) (dNil))))))) (dNext) env S = .nx env (st ++ [.lst ((acc ++ [(c.1, c.2, m)]).map triT)]) := fun h => by
    rw [decide_eq_true h] at t0
    refine if_t t0 ?_
    rw [List.map_append]
    exact app_to hS (by rw [he]; rfl) (tup_run (cons_run v4 (cons2 v5 v6)) (by show 3 ≤ _; omega)) (by rw [List.length_map]; exact ha)
  by_cases h0 : 0 < m
  · have t0' := t0
    rw [decide_eq_true h0] at t0'
    rcases List.eq_nil_or_concat acc with e | ⟨A, q, e⟩
    · subst e
      rw [show hstep rows [] c = [(c.1, c.2, m)] by unfold hstep; rw [← hm, if_pos h0]; rfl]
      refine if_f (and_run (x := true) (y := false) t0' (fun _ => and_run (x := false) (y := true) (b_run (bin_run v2 nil_run ne)) (fun h => by cases h))) ?_
      exact add h0
    · rw [List.concat_eq_append] at e
      subst e
      rw [List.map_append] at hn
      have ix := ix_last hn
      have ne2 : aNe (.ref st.length) (.lst []) S = .ok (.bl true) S := by
        rw [ne, List.map_append]
        cases A <;> rfl
      have last : dBin aIx (dVar 2) (dNeg (dC (.int 1))) env S = .ok (triT q) S := bin_run v2 neg1 ix
      have l0 : dBin aIx (dBin aIx (dVar 2) (dNeg (dC (.int 1)))) (dC (.int 0)) env S = .ok (.int q.1) S := bin_run last rfl rfl
      have l1 : dBin aIx (dBin aIx (dVar 2) (dNeg (dC (.int 1)))) (dC (.int 1)) env S = .ok (.int q.2.1) S := bin_run last rfl rfl
      have l2 : dBin aIx (dBin aIx (dVar 2) (dNeg (dC (.int 1)))) (dC (.int 2)) env S = .ok (.int q.2.2) S := bin_run last rfl rfl
      have t := and_run t0' fun _ => and_run (x := true) (b_run (bin_run v2 nil_run ne2)) fun _ => and_run (b_run (bin_run l1 v4 (eq_int _ _ S))) fun _ => b_run (bin_run l2 v6 (eq_int _ _ S))
      rw [Bool.true_and, Bool.true_and, ← Bool.decide_and] at t
      rw [hstep_snoc, ← hm, if_pos h0]
      by_cases g : q.2.1 = c.1 ∧ q.2.2 = m
      · rw [if_pos g]
        rw [decide_eq_true g] at t
        have sl : setAt S (.ref st.length) (.int (-1)) (triT (q.1, c.2, m)) = some (st ++ [SO.lst ((A ++ [(q.1, c.2, m)]).map triT)]) := by
          rw [set_last hn, hse, List.map_append]; rfl
        exact if_t t (set_run (d := triT (q.1, c.2, m)) (tup_run (cons_run l0 (cons2 v5 v6)) (by show 3 ≤ _; omega)) v2 neg1 sl)
      · rw [if_neg g]
        rw [decide_eq_false g] at t
        exact if_f t (add h0)
  · have t0' := t0
    rw [decide_eq_false h0] at t0'
    have : hstep rows acc c = acc := by unfold hstep; rw [← hm, if_neg h0]
    rw [this, ← hS]
    exact if_f (and_run (x := false) (y := true) t0' (fun h => by cases h)) (if_f t0' rfl)
theorem hm_len (rows : List Rw) (cuts : List Int) : (hmI rows cuts).length ≤ cuts.length := by
  have : ∀ (l : List Rw) (acc : List Rt), (l.foldl (hstep rows) acc).length ≤ acc.length + l.length := by
    intro l
    induction l with
    | nil => intro acc; exact Nat.le_refl _
    | cons r m ih =>
      intro acc
      have a := ih (hstep rows acc r)
      have b := hstep_len rows acc r
      rw [List.foldl_cons, List.length_cons]
      omega
  have a := this (cuts.zip cuts.tail) []
  rw [List.length_zip, List.length_nil] at a
  unfold hmI
  omega
theorem cuts_len (rows : List Rw) : (cutsI rows).length ≤ 2 * rows.length := by
  have := (cuts_ok rows).2.2
  unfold cutsI
  rw [(sortI_perm _).length_eq]
  exact this
theorem e_hm {d : D} {rows : List Rw} (hd : RD d rows) (hl : rows.length ≤ 20) (hv : Vl rows) {st : Store} (hst : stCl st.length st = true) : f_how_many_at [d] st = .ok (.tup ((hmI rows (cutsI rows)).map triT)) st := by
  obtain ⟨C, hC⟩ : ∃ C, C = cutsI rows := ⟨_, rfl⟩
  have cl := cuts_len rows
  have kl := (cuts_ok rows).2.2
  rw [← hC] at cl ⊢
  obtain ⟨e', f1, _⟩ := for_fold (ε := Option D × Option D × Option D) (gt := dgTup 2 (dgCons (dgName 4) (dgCons (dgName 5) (dgNil)))) (fb := l_how_many_at_1) pairT (fun (_ : List Rt) e => [some d, some (.lst (C.map .int)), some (.ref st.length), none, e.1, e.2.1, e.2.2, none, none]) (fun acc => st ++ [SO.lst (acc.map triT)]) (hstep rows) (fun acc n => acc.length + n ≤ 1000) (C.zip C.tail)
    (fun c _ acc e n hP => ⟨_, (some (.int c.1), some (.int c.2), some (.int (covI rows c.1 c.2))), gt_pair 4 5 c _, .inl (hm_step hd (by omega) acc c _ _ _ _ (by omega)), by have := hstep_len rows acc c; omega⟩) [] (none, none, none) 0 (by rw [List.length_zip, List.length_nil]; omega)
  refine trim_tup (x := .lst ((hmI rows C).map triT)) (runB_rt ?_) (cls_tri _ _) hst
  show b_how_many_at [some d, none, none, none, none, none, none, none, none] st = _
  obtain ⟨w1, d1, n1⟩ := dc_run (fi := dIt (dVar 0)) (gt := dgName 3) (fk := dBin aIx (dVar 3) (dC (.int 0))) (fe := dC (.bl true)) (vs := [3]) (env := [some d, none, none, none, none, none, none, none, none]) (st := st) pairT (fun p => [some d, none, none, some (pairT p), none, none, none, none, none]) (·.1) (fun _ => .bl true) rows (it_rows hd rfl) (by omega) fun p _ => ⟨rfl, rfl, rfl⟩
  obtain ⟨w2, d2, n2⟩ := dc_run (fi := dIt (dVar 0)) (gt := dgName 3) (fk := dBin aIx (dVar 3) (dC (.int 1))) (fe := dC (.bl true)) (vs := [3]) (env := [some d, none, none, none, none, none, none, none, none]) (st := st) pairT (fun p => [some d, none, none, some (pairT p), none, none, none, none, none]) (·.2) (fun _ => .bl true) rows (it_rows hd rfl) (by omega) fun p _ => ⟨rfl, rfl, rfl⟩
  have b1 := (putF (rows.map (·.1)) []).2.2
  have b2 := (putF (rows.map (·.2)) []).2.2
  rw [List.length_map, List.length_nil] at b1 b2
  have q1 : w1.length ≤ 0 + rows.length := Nat.le_trans (Nat.le_of_eq n1.symm) b1
  have q2 : w2.length ≤ 0 + rows.length := Nat.le_trans (Nat.le_of_eq n2.symm) b2
  obtain ⟨us, o1⟩ := or_dic _ _ w1 w2 n1 n2 (by rw [n1, n2]; omega) st
  have sk : bSortedK false [.dic ((inlK (((rows.map (·.2)).foldl putI []).foldl putI ((rows.map (·.1)).foldl putI []))).map .k) us] st = .ok (.lst (C.map .int)) st := by
    rw [hC]
    exact sortedK_run _ _ (by show (keysI rows).length < 64; omega) st
  unfold b_how_many_at
  refine seq_run (drop_run (call_run (cons1 rfl) (e_check hd (by omega) hv st))) ?_
  refine seq_run (par_run (cons2 (call_run (cons1 (bin_run d1 d2 o1)) sk) nilT_run) rfl) ?_
  refine seq_run (for_run (p := ((C.zip C.tail).map pairT, none)) (st' := st ++ [SO.lst []]) ?_ f1) ?_
  · show dZip (dVar 1) (dSl false (dVar 1) (dP (dC (.int 1))) (dNoP)) [some d, some (.lst (C.map .int)), some (.ref st.length), none, none, none, none, none, none] (st ++ [SO.lst []]) = _
    have sl : dSl false (dVar 1) (dP (dC (.int 1))) (dNoP) [some d, some (.lst (C.map .int)), some (.ref st.length), none, none, none, none, none, none] (st ++ [SO.lst []]) = .ok (.lst (C.tail.map .int)) (st ++ [SO.lst []]) := by
      show mkL false (cutD (C.map D.int) (some 1) none) (st ++ [SO.lst []]) = _
      rw [tail_cut, ← List.map_tail]
      rfl
    unfold dZip
    rw [show dVar 1 [some d, some (.lst (C.map .int)), some (.ref st.length), none, none, none, none, none, none] (st ++ [SO.lst []]) = .ok (.lst (C.map .int)) (st ++ [SO.lst []]) from rfl, R.bind_ok, sl, R.bind_ok]
    show R.ok (zipD (C.map D.int) (C.tail.map D.int), none) _ = _
    rw [zip_pairs]
  · exact ret_run (call_run (cons1 rfl) (tup_end _ _))
end K04

namespace K04
open PySem G L2
def hmR (rows : List Rw) : List Rt := hmI rows (cutsI rows)
theorem hmR_ok (rows : List Rw) : HK rows (hmR rows) := hm_ok (cuts_ok rows).1 (cuts_ok rows).2.1
theorem hmR_len (rows : List Rw) : (hmR rows).length ≤ 2 * rows.length := Nat.le_trans (hm_len _ _) (cuts_len rows)
def mxI : List Int → Int
  | [] => 0
  | n :: ns => ns.foldl max n
theorem gt_tri (i j k : Nat) (p : Rt) (env : G.Env) : dgTup 3 (dgCons (dgName i) (dgCons (dgName j) (dgCons (dgName k) dgNil))) (triT p) env = some (((env.set i (some (.int p.1))).set j (some (.int p.2.1))).set k (some (.int p.2.2))) := rfl
theorem e_most {d : D} {rows : List Rw} (hd : RD d rows) (hl : rows.length ≤ 20) (hv : Vl rows) {st : Store} (hst : stCl st.length st = true) : f_most_at_once [d] st = .ok (.int (mxI ((hmR rows).map (·.2.2)))) st := by
  have hlen := hmR_len rows
  refine runB_rt ?_
  show b_most_at_once [some d, none, none, none] st = _
  unfold b_most_at_once
  refine ret_run ?_
  have q := lcM_run (fi := dIt (dCall f_how_many_at (dCons (dVar 0) (dNil)))) (gt := dgTup 3 (dgCons (dgName 1) (dgCons (dgName 2) (dgCons (dgName 3) (dgNil))))) (fe := y_most_at_once_1) (vs := [1, 2, 3]) (env := [some d, none, none, none]) (st := st) triT (fun r => D.int r.2.2) (fun r => [some d, some (.int r.1), some (.int r.2.1), some (.int r.2.2)]) (hmR rows) (it_tup (call_run (cons1 rfl) (e_hm hd hl hv hst))) (by omega) fun r _ => ⟨rfl, rfl⟩
  have e : (hmR rows).map (fun r => D.int r.2.2) = ((hmR rows).map (·.2.2)).map D.int := by rw [List.map_map]; rfl
  rw [e] at q
  unfold dMaxDf
  rw [q, R.bind_ok, show dC (.int 0) [some d, none, none, none] st = .ok (.int 0) st from rfl, R.bind_ok]
  show (match intsD (((hmR rows).map (·.2.2)).map D.int) with
    | some [] => R.ok (D.int 0) st
    | some (n :: ns) => .ok (.int (ns.foldl max n)) st
    | none => .bad) = _
  rw [ints_map]
  cases (hmR rows).map (·.2.2) <;> rfl
theorem e_ial {d : D} {rows : List Rw} (hd : RD d rows) (hl : rows.length ≤ 20) (hv : Vl rows) {many : Int} (hm : 1 ≤ many) {st : Store} (hst : stCl st.length st = true) : f_in_at_least [d, .int many] st = .ok (.tup ((ialI (hmR rows) many).map pairT)) st := by
  have hlen := hmR_len rows
  refine runB_rt ?_
  show b_in_at_least [some d, some (.int many), none, none, none] st = _
  unfold b_in_at_least
  refine seq_run (if_f (b_run (bin_run rfl rfl (show aLt (.int many) (.int 1) st = .ok (.bl false) st by show R.ok (D.bl (decide (many < 1))) st = _; rw [decide_eq_false (by omega)]))) rfl) (ret_run ?_)
  have q := lcF_run (fi := dIt (dCall f_how_many_at (dCons (dVar 0) (dNil)))) (gt := dgTup 3 (dgCons (dgName 2) (dgCons (dgName 3) (dgCons (dgName 4) (dgNil))))) (ft := dB (dBin aGe (dVar 4) (dVar 1))) (fe := y_in_at_least_1) (vs := [2, 3, 4]) (env := [some d, some (.int many), none, none, none]) (st := st) triT (fun r => pairT (r.1, r.2.1)) (fun r => [some d, some (.int many), some (.int r.1), some (.int r.2.1), some (.int r.2.2)]) (fun r => decide (r.2.2 ≥ many)) (hmR rows) (it_tup (call_run (cons1 rfl) (e_hm hd hl hv hst))) (by omega) fun r _ => ⟨rfl, rfl, fun _ => tup2 rfl rfl⟩
  have fl : ((hmR rows).filter fun r => decide (r.2.2 ≥ many)).length ≤ (hmR rows).length := List.length_filter_le _ _
  refine call_run (cons1 q) (e_joined (rows := ((hmR rows).filter fun r => decide (r.2.2 ≥ many)).map fun r => (r.1, r.2.1)) (.inl (by rw [List.map_map]; rfl)) (by rw [List.length_map]; omega) (fun p hp => ?_) hst)
  obtain ⟨r, hr, rfl⟩ := List.mem_map.mp hp
  exact ((hmR_ok rows).row r (List.mem_filter.mp hr).1).1
/-! the first that fits -/
def oD : Option Int → D
  | none => .non
  | some i => .int i
theorem fit_loop {long step start : Int} (hs : 1 ≤ step) (d : D) : ∀ (l : List Rw) (e4 e5 e6 : Option D) (st : Store), ∃ x y z, forD (dgTup 2 (dgCons (dgName 4) (dgCons (dgName 5) (dgNil)))) l_first_fit_1 none (l.map pairT) [some d, some (.int long), some (.int step), some (.int start), e4, e5, e6] st =
    match fitI long step start l with
    | some h => .rt (.int h) st
    | none => .nx [some d, some (.int long), some (.int step), some (.int start), x, y, z] st
  | [], e4, e5, e6, st => ⟨e4, e5, e6, rfl⟩
  | p :: l, e4, e5, e6, st => by
    have e : fitI long step start (p :: l) = if ceI (max p.1 start) step + long ≤ p.2 then some (ceI (max p.1 start) step) else fitI long step start l := rfl
    have md : aMod (.int (0 - max p.1 start)) (.int step) st = .ok (.int ((0 - max p.1 start) % step)) st := by
      show (if step ≠ 0 then R.ok (D.int ((0 - max p.1 start).fmod step)) st else R.bad) = _
      rw [if_pos (by omega), Int.fmod_eq_emod_of_nonneg _ (by omega)]
    have body : ∀ r : SR, (∀ S, S = st → dIfS (dB (dBin aLeT (dBin (aAdd false) (dVar 6) (dVar 1)) (dVar 5))) (dRet (dVar 6)) (dNext) [some d, some (.int long), some (.int step), some (.int start), some (.int p.1), some (.int p.2), some (.int (ceI (max p.1 start) step))] S = r) → l_first_fit_1 [some d, some (.int long), some (.int step), some (.int start), some (.int p.1), some (.int p.2), e6] st = r := fun r h => by
      unfold l_first_fit_1
      refine seq_run (asg_run (call_run (cons2 rfl rfl) (max_run _ _ _)) rfl) ?_
      exact seq_run (aug_run (x := .int (max p.1 start)) rfl (bin_run (x := .int (0 - max p.1 start)) rfl rfl md) (z := .int (ceI (max p.1 start) step)) rfl) (h st rfl)
    have tst : ∀ c, decide (ceI (max p.1 start) step + long ≤ p.2) = c → dB (dBin aLeT (dBin (aAdd false) (dVar 6) (dVar 1)) (dVar 5)) [some d, some (.int long), some (.int step), some (.int start), some (.int p.1), some (.int p.2), some (.int (ceI (max p.1 start) step))] st = .ok c st := fun c hc => by rw [← hc]; exact b_run rfl
    rw [e]
    by_cases c : ceI (max p.1 start) step + long ≤ p.2
    · refine ⟨none, none, none, ?_⟩
      rw [if_pos c]
      have b := body (.rt (.int (ceI (max p.1 start) step)) st) fun S hS => by rw [hS]; exact if_t (tst _ (decide_eq_true c)) (ret_run rfl)
      simp only [List.map_cons, forD, gdOk, if_true, gt_pair, List.set_cons_succ, List.set_cons_zero, b, loopK]
    · rw [if_neg c]
      have b := body (.nx _ st) fun S hS => by rw [hS]; exact if_f (tst _ (decide_eq_false c)) rfl
      obtain ⟨x, y, z, ih⟩ := fit_loop hs d l (some (.int p.1)) (some (.int p.2)) (some (.int (ceI (max p.1 start) step))) st
      refine ⟨x, y, z, ?_⟩
      simp only [List.map_cons, forD, gdOk, if_true, gt_pair, List.set_cons_succ, List.set_cons_zero, b, loopK]
      exact ih
theorem e_fit {d : D} {rows : List Rw} (hd : RD d rows) (hl : rows.length ≤ 1000) (hv : Vl rows) {long step start : Int} (h1 : 1 ≤ long) (h2 : 1 ≤ step) {st : Store} (hst : stCl st.length st = true) : f_first_fit [d, .int long, .int step, .int start] st = .ok (oD (fitI long step start (joinI rows))) st := by
  refine runB_rt ?_
  show b_first_fit [some d, some (.int long), some (.int step), some (.int start), none, none, none] st = _
  obtain ⟨x, y, z, f⟩ := fit_loop (long := long) (start := start) h2 d (joinI rows) none none none st
  unfold b_first_fit
  refine seq_run (if_f (b_run (bin_run (call_run (cons2 rfl rfl) (min_run _ _ _)) rfl (show aLt (.int (min long step)) (.int 1) st = .ok (.bl false) st by show R.ok (D.bl (decide (min long step < 1))) st = _; rw [decide_eq_false (by omega)]))) rfl) ?_
  have it := it_tup (env := [some d, some (.int long), some (.int step), some (.int start), none, none, none]) (call_run (f := f_joined) (cons1 (fa := dVar 0) rfl) (e_joined hd hl hv hst))
  cases e : fitI long step start (joinI rows) with
  | none =>
    rw [e] at f
    exact seq_run (for_run it f) (ret_run rfl)
  | some h =>
    rw [e] at f
    exact seq_rt (for_run it f)
/-! points -/
def swR (p : Rw) : Rw := (p.2, p.1)
/-- rows by their ends -/
def byEnd (rows : List Rw) : List Rw := (sortP (rows.map swR)).map swR
theorem byEnd_perm (rows : List Rw) : (byEnd rows).Perm rows := by
  have := (sortP_perm (rows.map swR)).map swR
  rw [List.map_map] at this
  rw [show (swR ∘ swR) = id from rfl, List.map_id] at this
  exact this
theorem byEnd_sorted (rows : List Rw) : (byEnd rows).Pairwise fun a b => a.2 ≤ b.2 := by
  refine List.pairwise_map.mpr ((sortP_sorted (rows.map swR)).imp fun {a b} h => ?_)
  have := leP_iff.mp h
  show a.1 ≤ b.1
  omega
def ptsI (rows : List Rw) : List Int := (grI (fun p : Rw => p) (byEnd rows)).map fun p => p.2 - 1
theorem dats_int : ∀ l : List Int, D.dats (l.map .int) = true
  | [] => rfl
  | p :: l => by
    show (true && D.dats (l.map .int)) = true
    rw [dats_int l]; rfl
theorem deps_int : ∀ l : List Int, D.deps (l.map .int) ≤ 1
  | [] => by show 0 ≤ 1; omega
  | p :: l => by
    have := deps_int l
    show max 0 (D.deps (l.map .int)) ≤ 1
    omega
theorem cls_int (n : Nat) : ∀ l : List Int, D.cls n (l.map .int) = true
  | [] => rfl
  | p :: l => by
    show (true && D.cls n (l.map .int)) = true
    rw [cls_int n l]; rfl
theorem gst_len {α : Type} (r : α → Rw) (acc : List α) (a : α) : (gst r acc a).length ≤ acc.length + 1 := by
  rcases List.eq_nil_or_concat acc with rfl | ⟨A, q, rfl⟩
  · exact Nat.le_refl _
  · rw [List.concat_eq_append, gst_last]
    split <;> simp
def ptL (acc : List Rw) : List D := (acc.map fun p => p.2 - 1).map .int
theorem pts_step {d : D} (acc : List Rw) (r : Rw) {st : Store} (hl : acc.length < 16777216) :
    l_fewest_points_1 [some d, some (.ref st.length), some (.int r.2), some (.int r.1)] (st ++ [.lst (ptL acc)]) = .nx [some d, some (.ref st.length), some (.int r.2), some (.int r.1)] (st ++ [.lst (ptL (gst (fun p => p) acc r))]) := by
  obtain ⟨S, hS⟩ : ∃ S, S = st ++ [SO.lst (ptL acc)] := ⟨_, rfl⟩
  have hn : lstAt S st.length = some (ptL acc) := by rw [hS]; exact lst_end _ _
  have ne := eq_nil hn (dats_int _) (by have := deps_int (acc.map fun p => p.2 - 1); show D.deps ((acc.map fun p => p.2 - 1).map D.int) ≤ 60; omega)
  rw [← hS]
  unfold l_fewest_points_1
  have add : dDrop (dAppend (dVar 1) (dBin aSub (dVar 2) (dC (.int 1)))) [some d, some (.ref st.length), some (.int r.2), some (.int r.1)] S = .nx [some d, some (.ref st.length), some (.int r.2), some (.int r.1)] (st ++ [.lst (ptL (acc ++ [r]))]) := by
    have e : ptL (acc ++ [r]) = ptL acc ++ [.int (r.2 - 1)] := by unfold ptL; simp
    rw [e]
    exact app_to hS rfl rfl (by unfold ptL; rw [List.length_map, List.length_map]; exact hl)
  rcases List.eq_nil_or_concat acc with e | ⟨A, q, e⟩
  · subst e
    exact if_t (or_run (x := true) (y := true) (b_run (bin_run rfl nil_run ne)) (fun h => by cases h)) add
  · rw [List.concat_eq_append] at e
    subst e
    have hn' : lstAt S st.length = some (ptL A ++ [.int (q.2 - 1)]) := by rw [hn]; unfold ptL; simp
    have ix := ix_last hn'
    have ne2 : aEq (.ref st.length) (.lst []) S = .ok (.bl false) S := by
      rw [ne]
      unfold ptL
      cases A <;> rfl
    have c : dOr (dB (dBin aEq (dVar 1) (dLst false (dNil)))) (dB (dBin aLt (dBin aIx (dVar 1) (dNeg (dC (.int 1)))) (dVar 3))) [some d, some (.ref st.length), some (.int r.2), some (.int r.1)] S = .ok (decide (q.2 - 1 < r.1)) S :=
      or_run (x := false) (b_run (bin_run rfl nil_run ne2)) fun _ => b_run (bin_run (bin_run rfl neg1 ix) rfl rfl)
    rw [gst_last]
    by_cases h : q.2 ≤ r.1
    · rw [if_pos h]
      rw [decide_eq_true (by omega)] at c
      exact if_t c add
    · rw [if_neg h]
      rw [decide_eq_false (by omega)] at c
      refine if_f c ?_
      rw [hS]; rfl
theorem tail_tup {d : D} {rows : List Rw} : True := trivial
theorem sortG_run {fi : DI} {gt : DG} {fe : DE} {vs : List Nat} {env : G.Env} {st : Store} {ds : List D} (ps : List Rw) (hi : fi env st = .ok (ds, none) st) (hl : ds.length ≤ 16777216) (h : lcD gt dYes fe none ds (wipeE env vs) st = .ok (ps.map pairT) st) : dSortG false (dGx fi gt dYes fe vs) env st = .ok (.lst ((sortP ps).map pairT)) st := by
  unfold dSortG dGx
  rw [hi, R.bind_ok, R.bind_ok]
  show (R.b (if ds.length ≤ 16777216 then lcD gt dYes fe none ds (wipeE env vs) st else R.bad) _) = _
  rw [if_pos hl, h, R.b_ok, pairs_map]
  rfl
theorem e_points {d : D} {rows : List Rw} (hd : RD d rows) (hl : rows.length ≤ 1000) (hv : Vl rows) {st : Store} (hst : stCl st.length st = true) : f_fewest_points [d] st = .ok (.tup ((ptsI rows).map .int)) st := by
  have pl := (byEnd_perm rows).length_eq
  obtain ⟨e', f1, _⟩ := for_fold (ε := Option D × Option D) (gt := dgTup 2 (dgCons (dgName 2) (dgCons (dgName 3) (dgNil)))) (fb := l_fewest_points_1) (fun p => pairT (swR p)) (fun (_ : List Rw) e => [some d, some (.ref st.length), e.1, e.2]) (fun acc => st ++ [SO.lst (ptL acc)]) (gst fun p => p) (fun acc n => acc.length + n ≤ 1000) (byEnd rows)
    (fun r _ acc e n hP => ⟨_, (some (.int r.2), some (.int r.1)), gt_pair 2 3 (swR r) _, .inl (pts_step acc r (by omega)), by have := gst_len (fun p : Rw => p) acc r; omega⟩) [] (none, none) 0 (by rw [pl]; show 0 + (0 + _) ≤ _; omega)
  have q := lcM (gt := dgTup 2 (dgCons (dgName 3) (dgCons (dgName 2) (dgNil)))) (fe := y_fewest_points_1) (env := [some d, some (.ref st.length), none, none]) (st := st ++ [SO.lst []]) pairT (fun p => pairT (swR p)) (fun p => [some d, some (.ref st.length), some (.int p.2), some (.int p.1)]) rows fun p _ => ⟨rfl, tup2 rfl rfl⟩
  refine trim_tup (x := .lst ((ptsI rows).map .int)) (runB_rt ?_) (cls_int _ _) hst
  show b_fewest_points [some d, none, none, none] st = _
  unfold b_fewest_points
  refine seq_run (drop_run (call_run (cons1 rfl) (e_check hd hl hv st))) ?_
  refine seq_run (asg_run nilT_run rfl) ?_
  have so := sortG_run (fi := dIt (dVar 0)) (gt := dgTup 2 (dgCons (dgName 3) (dgCons (dgName 2) (dgNil)))) (fe := y_fewest_points_1) (vs := [3, 2]) (env := [some d, some (.ref st.length), none, none]) (st := st ++ [SO.lst []]) (rows.map swR) (it_rows hd rfl) (by rw [List.length_map]; omega) (by rw [List.map_map]; exact q)
  rw [show (sortP (rows.map swR)).map pairT = (byEnd rows).map fun p => pairT (swR p) by unfold byEnd; rw [List.map_map]; rfl] at so
  refine seq_run (for_run (it_lst so) f1) ?_
  exact ret_run (call_run (cons1 rfl) (tup_end _ _))
end K04

namespace K04
open PySem G L2
/-! most apart -/
theorem enum_gen (rows : List Rw) : ∀ (l pre : List Rw), rows = pre ++ l → enumD pre.length (l.map pairT) = ((List.range' pre.length l.length).map Int.ofNat).map fun k => .tup [.int k, pairT (rowAt rows k)]
  | [], pre, _ => rfl
  | p :: l, pre, h => by
    have ih := enum_gen rows l (pre ++ [p]) (by rw [h, List.append_assoc]; rfl)
    rw [List.length_append] at ih
    show D.tup [.int ((pre.length : Nat) : Int), pairT p] :: enumD (pre.length + 1) (l.map pairT) = _
    rw [show enumD (pre.length + 1) (l.map pairT) = _ from ih]
    have e : rowAt rows (Int.ofNat pre.length) = p := by
      unfold rowAt
      rw [h, show (Int.ofNat pre.length).toNat = pre.length from rfl, List.getD_eq_getElem?_getD, List.getElem?_append_right (Nat.le_refl _), Nat.sub_self]
      rfl
    show _ = D.tup [.int (Int.ofNat pre.length), pairT (rowAt rows (Int.ofNat pre.length))] :: _
    rw [e]
    rfl
theorem enum_rows (rows : List Rw) : enumD 0 (rows.map pairT) = (upto rows.length).map fun k => .tup [.int k, pairT (rowAt rows k)] := by
  have := enum_gen rows rows [] rfl
  unfold upto
  rw [List.range_eq_range']
  exact this
def gR (rows : List Rw) (k : Int) : Rw := ((rowAt rows k).2, k)
def ksI (rows : List Rw) : List Int := (sortP ((upto rows.length).map (gR rows))).map (·.2)
theorem ks_eq (rows : List Rw) : sortP ((upto rows.length).map (gR rows)) = (ksI rows).map (gR rows) := by
  unfold ksI
  rw [List.map_map]
  have : ∀ p ∈ sortP ((upto rows.length).map (gR rows)), (gR rows ∘ (·.2)) p = p := fun p hp => by
    obtain ⟨k, _, rfl⟩ := List.mem_map.mp ((sortP_perm _).mem_iff.mp hp)
    rfl
  exact (List.map_congr_left this |>.trans (List.map_id _)).symm
theorem ks_perm (rows : List Rw) : (ksI rows).Perm (upto rows.length) := by
  have := (sortP_perm ((upto rows.length).map (gR rows))).map (·.2)
  rw [List.map_map] at this
  rw [show ((fun p : Rw => p.2) ∘ gR rows) = id from rfl, List.map_id] at this
  exact this
theorem ks_sorted (rows : List Rw) : (ksI rows).Pairwise fun a b => (rowAt rows a).2 ≤ (rowAt rows b).2 := by
  have h := sortP_sorted ((upto rows.length).map (gR rows))
  rw [ks_eq, List.pairwise_map] at h
  refine h.imp fun {a b} h => ?_
  have := leP_iff.mp h
  unfold gR at this
  dsimp only at this
  omega
theorem upto_mem {n : Nat} {k : Int} (h : k ∈ upto n) : 0 ≤ k ∧ k < n := by
  unfold upto at h
  obtain ⟨i, hi, rfl⟩ := List.mem_map.mp h
  have := List.mem_range.mp hi
  exact ⟨Int.natCast_nonneg _, by show ((i : Nat) : Int) < _; omega⟩
theorem upto_len (n : Nat) : (upto n).length = n := by simp [upto]
theorem ix_row {rows : List Rw} {k : Int} (h : 0 ≤ k ∧ k < rows.length) (st : Store) : aIx (.lst (rows.map pairT)) (.int k) st = .ok (pairT (rowAt rows k)) st := by
  show (match L2.atI (rows.map pairT) k with
      | some d => R.ok d st
      | none => R.bad) = _
  have : L2.atI (rows.map pairT) k = some (pairT (rowAt rows k)) := by
    unfold L2.atI L2.ixN rowAt
    rw [if_pos h.1, if_pos (by rw [List.length_map]; exact h.2)]
    show (rows.map pairT)[k.toNat]? = _
    rw [List.getElem?_map, List.getD_eq_getElem?_getD, List.getElem?_eq_getElem (show k.toNat < rows.length by omega)]
    rfl
  rw [this]
def lastD (rows : List Rw) (acc : List Int) : D := match acc.getLast? with
  | none => .non
  | some k => .int (rowAt rows k).2
theorem ap_step {rows : List Rw} (acc : List Int) (k : Int) (hk : 0 ≤ k ∧ k < rows.length) {st : Store} (hl : acc.length < 16777216) :
    l_most_apart_1 [some (.lst (rows.map pairT)), some (.ref st.length), some (lastD rows acc), some (.int (rowAt rows k).2), some (.int k), none] (st ++ [.lst (acc.map .int)]) = .nx [some (.lst (rows.map pairT)), some (.ref st.length), some (lastD rows (gst (rowAt rows) acc k)), some (.int (rowAt rows k).2), some (.int k), none] (st ++ [.lst ((gst (rowAt rows) acc k).map .int)]) := by
  obtain ⟨S, hS⟩ : ∃ S, S = st ++ [SO.lst (acc.map .int)] := ⟨_, rfl⟩
  rw [← hS]
  unfold l_most_apart_1
  have add : dSeq (dDrop (dAppend (dVar 1) (dVar 4))) (dAsg (dVar 3) (dgName 2)) [some (.lst (rows.map pairT)), some (.ref st.length), some (lastD rows acc), some (.int (rowAt rows k).2), some (.int k), none] S = .nx [some (.lst (rows.map pairT)), some (.ref st.length), some (.int (rowAt rows k).2), some (.int (rowAt rows k).2), some (.int k), none] (st ++ [.lst ((acc ++ [k]).map .int)]) := by
    rw [List.map_append]
    exact seq_run (app_to hS rfl rfl (by rw [List.length_map]; exact hl)) (asg_run rfl rfl)
  rcases List.eq_nil_or_concat acc with e | ⟨A, q, e⟩
  · subst e
    exact if_t (or_run (x := true) (y := true) (b_run (bin_run rfl rfl rfl)) (fun h => by cases h)) add
  · rw [List.concat_eq_append] at e
    subst e
    have la : lastD rows (A ++ [q]) = .int (rowAt rows q).2 := by
      unfold lastD
      rw [List.getLast?_concat]
    have la2 : lastD rows (A ++ [q] ++ [k]) = .int (rowAt rows k).2 := by
      unfold lastD
      rw [List.getLast?_concat]
    rw [la] at add ⊢
    have c : dOr (dB (dBin aIsN (dVar 2) (dC .non))) (dB (dBin aGe (dBin aIx (dBin aIx (dVar 0) (dVar 4)) (dC (.int 0))) (dVar 2))) [some (.lst (rows.map pairT)), some (.ref st.length), some (.int (rowAt rows q).2), some (.int (rowAt rows k).2), some (.int k), none] S = .ok (decide ((rowAt rows q).2 ≤ (rowAt rows k).1)) S :=
      or_run (x := false) (b_run (bin_run rfl rfl rfl)) fun _ => b_run (bin_run (bin_run (bin_run rfl rfl (ix_row hk S)) rfl rfl) rfl rfl)
    rw [gst_last]
    by_cases h : (rowAt rows q).2 ≤ (rowAt rows k).1
    · rw [if_pos h, la2]
      rw [decide_eq_true h] at c
      exact if_t c add
    · rw [if_neg h, la]
      rw [decide_eq_false h] at c
      refine if_f c ?_
      rw [hS]; rfl
def apI (rows : List Rw) : List Int := sortI (grI (rowAt rows) (ksI rows))
theorem sorted_ints {d : D} {ns : List Int} {st : Store} (h : seqA st d = some (ns.map .int)) : bSortedA false [d] st = .ok (.lst ((sortI ns).map .int)) st := by
  unfold bSortedA
  dsimp only
  rw [h]
  dsimp only
  rw [ints_map]
  rfl
theorem e_apart {rows : List Rw} (hl : rows.length ≤ 1000) (hv : Vl rows) {st : Store} (hst : stCl st.length st = true) : f_most_apart [.lst (rows.map pairT)] st = .ok (.tup ((apI rows).map .int)) st := by
  obtain ⟨d, hd0⟩ : ∃ d, d = D.lst (rows.map pairT) := ⟨_, rfl⟩
  have hd : RD d rows := .inl hd0
  have kl := (ks_perm rows).length_eq
  rw [upto_len] at kl
  obtain ⟨e', f1, _⟩ := for_fold (ε := Option D × Option D) (gt := dgTup 2 (dgCons (dgName 3) (dgCons (dgName 4) (dgNil)))) (fb := l_most_apart_1) (fun k => pairT (gR rows k)) (fun (acc : List Int) e => [some (.lst (rows.map pairT)), some (.ref st.length), some (lastD rows acc), e.1, e.2, none]) (fun acc => st ++ [SO.lst (acc.map .int)]) (gst (rowAt rows)) (fun acc n => acc.length + n ≤ 1000) (ksI rows)
    (fun k hk acc e n hP => ⟨_, (some (.int (rowAt rows k).2), some (.int k)), gt_pair 3 4 (gR rows k) _, .inl (ap_step acc k (upto_mem ((ks_perm rows).mem_iff.mp hk)) (by omega)), by have := gst_len (rowAt rows) acc k; omega⟩) [] (none, none) 0 (by rw [kl]; show 0 + (0 + _) ≤ _; omega)
  have q := lcM (gt := dgTup 2 (dgCons (dgName 4) (dgCons (dgName 5) (dgNil)))) (fe := y_most_apart_1) (env := [some (.lst (rows.map pairT)), some (.ref st.length), some .non, none, none, none]) (st := st ++ [SO.lst []]) (fun k => D.tup [.int k, pairT (rowAt rows k)]) (fun k => pairT (gR rows k)) (fun k => [some (.lst (rows.map pairT)), some (.ref st.length), some .non, none, some (.int k), some (pairT (rowAt rows k))]) (upto rows.length) fun p _ => ⟨rfl, tup2 rfl rfl⟩
  refine trim_tup (x := .lst ((grI (rowAt rows) (ksI rows)).map .int)) (runB_rt ?_) (cls_int _ _) hst
  show b_most_apart [some (.lst (rows.map pairT)), none, none, none, none, none] st = _
  unfold b_most_apart
  refine seq_run (drop_run (call_run (cons1 rfl) (e_check (.inl rfl) hl hv st))) ?_
  refine seq_run (par_run (cons2 nilT_run rfl) rfl) ?_
  have it : dEnumA (dVar 0) [some (.lst (rows.map pairT)), some (.ref st.length), some .non, none, none, none] (st ++ [SO.lst []]) = .ok (enumD 0 (rows.map pairT), none) (st ++ [SO.lst []]) := rfl
  rw [enum_rows] at it
  have so := sortG_run (fi := dEnumA (dVar 0)) (gt := dgTup 2 (dgCons (dgName 4) (dgCons (dgName 5) (dgNil)))) (fe := y_most_apart_1) (vs := [4, 5]) (env := [some (.lst (rows.map pairT)), some (.ref st.length), some .non, none, none, none]) (st := st ++ [SO.lst []]) ((upto rows.length).map (gR rows)) it (by rw [List.length_map, upto_len]; omega) (by rw [List.map_map]; exact q)
  rw [ks_eq, List.map_map] at so
  refine seq_run (for_run (it_lst so) f1) ?_
  refine ret_run (call_run (cons1 (call_run (cons1 rfl) (sorted_ints (ns := grI (rowAt rows) (ksI rows)) ?_))) rfl)
  exact lst_end _ _
theorem apart_ok (rows : List Rw) : (apI rows).Perm (grI (rowAt rows) (ksI rows)) ∧ (apI rows).Pairwise (· ≤ ·) := ⟨sortI_perm _, sortI_sorted _⟩
/-! the law's own words -/
theorem ne_lst {L : List D} (h1 : D.dats L = true) (h2 : D.deps L ≤ 60) (st : Store) : aNe (.lst L) (.lst []) st = .ok (.bl (!L.isEmpty)) st := by
  unfold aNe
  rw [show norm st (.lst L) = .lst L from rfl, show norm st (.lst []) = .lst [] from rfl]
  have : okEq (.lst L) (.lst []) = true := by
    unfold okEq
    have h3 : D.dep (.lst L) ≤ 64 := by show D.deps L + 1 ≤ 64; omega
    have h4 : D.dep (.lst []) ≤ 64 := by show 0 + 1 ≤ 64; omega
    rw [show (D.lst L).dat = true from h1, decide_eq_true h3, decide_eq_true h4]
    rfl
  rw [if_pos this]
  show R.ok (D.bl (!D.eqvs L [])) st = _
  rw [eqvs_nil]
theorem eq_lst {L : List D} (h1 : D.dats L = true) (h2 : D.deps L ≤ 60) (st : Store) : aEq (.lst L) (.lst []) st = .ok (.bl L.isEmpty) st := by
  unfold aEq
  rw [show norm st (.lst L) = .lst L from rfl, show norm st (.lst []) = .lst [] from rfl]
  have : okEq (.lst L) (.lst []) = true := by
    unfold okEq
    have h3 : D.dep (.lst L) ≤ 64 := by show D.deps L + 1 ≤ 64; omega
    have h4 : D.dep (.lst []) ≤ 64 := by show 0 + 1 ≤ 64; omega
    rw [show (D.lst L).dat = true from h1, decide_eq_true h3, decide_eq_true h4]
    rfl
  rw [if_pos this]
  show R.ok (D.bl (D.eqvs L [])) st = _
  rw [eqvs_nil]
theorem ones {α : Type} (l : List α) : D.dats (l.map fun _ => D.int 1) = true ∧ D.deps (l.map fun _ => D.int 1) ≤ 60 := by
  have e : (l.map fun _ => D.int 1) = (l.map fun _ => (1 : Int)).map D.int := by rw [List.map_map]; rfl
  rw [e]
  exact ⟨dats_int _, by have := deps_int (l.map fun _ => (1 : Int)); omega⟩
theorem ones_ne {α : Type} (p : α → Bool) (l : List α) (st : Store) : aNe (.lst ((l.filter p).map fun _ => D.int 1)) (.lst []) st = .ok (.bl (l.any p)) st := by
  rw [ne_lst (ones _).1 (ones _).2]
  congr 2
  rw [List.isEmpty_map, Bool.eq_iff_iff, Bool.not_eq_true', List.any_eq_true]
  constructor
  · intro h
    cases e : l.filter p with
    | nil => rw [e] at h; cases h
    | cons a t =>
      have : a ∈ l.filter p := by rw [e]; exact List.mem_cons_self
      obtain ⟨h1, h2⟩ := List.mem_filter.mp this
      exact ⟨a, h1, h2⟩
  · rintro ⟨a, h1, h2⟩
    have : a ∈ l.filter p := List.mem_filter.mpr ⟨h1, h2⟩
    cases e : l.filter p with
    | nil => rw [e] at this; cases this
    | cons a t => rfl
theorem e_lat {d : D} {l : List Rw} (hd : RD d l) (hl : l.length ≤ 1000) (t : Int) (st : Store) : f__law_at [d, .int t] st = .ok (.bl (atR l t)) st := by
  refine runB_rt ?_
  show b__law_at [some d, some (.int t), none, none] st = _
  unfold b__law_at
  refine ret_run (bin_run (lcF_run pairT (fun _ => D.int 1) (fun p => [some d, some (.int t), some (.int p.1), some (.int p.2)]) (fun p => inR p t) l (it_rows hd rfl) (by omega) fun p _ => ⟨rfl, b_run (chain_run rfl rfl rfl (fun _ => rfl) (fun _ => rfl)), fun _ => rfl⟩) nil_run (ones_ne _ _ st))
theorem front_cut (A : List D) (x : D) : cutD (A ++ [x]) none (some (-1)) = A := by
  unfold cutD
  have h1 : HT.sIx (A ++ [x]).length 0 none = 0 := rfl
  have h2 : HT.sIx (A ++ [x]).length (A ++ [x]).length (some (-1)) = A.length := by
    unfold HT.sIx
    dsimp only
    rw [if_pos (by decide), List.length_append]
    show (-1 + ((A.length + 1 : Nat) : Int)).toNat = A.length
    omega
  rw [h1, h2, List.drop_zero, Nat.sub_zero, List.take_left]
theorem mstep_snoc (A : List Rw) (q : Rw) (w : Int) : mstep (A ++ [q]) w = if q.2 = w then A ++ [(q.1, w + 1)] else A ++ [q] ++ [(w, w + 1)] := by
  unfold mstep
  rw [List.getLast?_concat]
  simp only [List.dropLast_concat]
theorem mstep_le (acc : List Rw) (w : Int) : (mstep acc w).length ≤ acc.length + 1 := by
  rcases List.eq_nil_or_concat acc with rfl | ⟨A, q, rfl⟩
  · exact Nat.le_refl _
  · rw [List.concat_eq_append, mstep_snoc]
    split <;> simp
theorem add_rows (l m : List Rw) (h : l.length + m.length ≤ 16777216) (st : Store) : aAdd false (.lst (l.map pairT)) (.lst (m.map pairT)) st = .ok (.lst ((l ++ m).map pairT)) st := by
  show (if (l.map pairT).length + (m.map pairT).length ≤ 16777216 then mkL false (l.map pairT ++ m.map pairT) st else .bad) = _
  rw [if_pos (by rw [List.length_map, List.length_map]; exact h), List.map_append]
  rfl
theorem lastix (A : List Rw) (q : Rw) (st : Store) : aIx (.lst ((A ++ [q]).map pairT)) (.int (-1)) st = .ok (pairT q) st := by
  show (match L2.atI ((A ++ [q]).map pairT) (-1) with
      | some d => R.ok d st
      | none => R.bad) = _
  rw [List.map_append, show [q].map pairT = [pairT q] from rfl, at_last]
theorem made_step {d : D} (acc : List Rw) (w : Int) {st : Store} (hl : acc.length ≤ 1000) :
    l__law_made_1 [some d, some (.lst (acc.map pairT)), some (.int w)] st = .nx [some d, some (.lst ((mstep acc w).map pairT)), some (.int w)] st := by
  unfold l__law_made_1
  have ne := ne_lst (dats_pairs acc) (by have := deps_pairs acc; omega) st
  have one : dLst false (dCons (dTup (dCons (dVar 2) (dCons (dBin (aAdd false) (dVar 2) (dC (.int 1))) (dNil)))) (dNil)) [some d, some (.lst (acc.map pairT)), some (.int w)] st = .ok (.lst ([(w, w + 1)].map pairT)) st :=
    lst_run (cons1 (tup2 rfl rfl)) (by show 1 ≤ _; omega) rfl
  have add := bin_run (h := aAdd false) (fa := dVar 1) rfl one (add_rows acc [(w, w + 1)] (by show acc.length + 1 ≤ _; omega) st)
  rcases List.eq_nil_or_concat acc with e | ⟨A, q, e⟩
  · subst e
    exact asg_run (ife_f (and_run (x := false) (y := true) (b_run (bin_run rfl nil_run ne)) (fun h => by cases h)) add) rfl
  · rw [List.concat_eq_append] at e
    subst e
    have ne2 : aNe (.lst ((A ++ [q]).map pairT)) (.lst []) st = .ok (.bl true) st := by
      rw [ne, List.map_append]
      cases A <;> rfl
    have last : dBin aIx (dVar 1) (dNeg (dC (.int 1))) [some d, some (.lst ((A ++ [q]).map pairT)), some (.int w)] st = .ok (pairT q) st := bin_run rfl neg1 (lastix A q st)
    have c := and_run (x := true) (b_run (bin_run (fa := dVar 1) (env := [some d, some (.lst ((A ++ [q]).map pairT)), some (.int w)]) rfl nil_run ne2)) fun _ => b_run (bin_run (fb := dVar 2) (bin_run (fb := dC (.int 1)) last rfl (ix1 q st)) rfl (eq_int _ _ st))
    rw [Bool.true_and] at c
    rw [mstep_snoc]
    by_cases h : q.2 = w
    · rw [if_pos h]
      rw [decide_eq_true h] at c
      have sl : dSl false (dVar 1) (dNoP) (dP (dNeg (dC (.int 1)))) [some d, some (.lst ((A ++ [q]).map pairT)), some (.int w)] st = .ok (.lst (A.map pairT)) st := by
        show mkL false (cutD ((A ++ [q]).map pairT) none (some (-1))) st = _
        rw [List.map_append, show [q].map pairT = [pairT q] from rfl, front_cut]
        rfl
      rw [List.length_append] at hl
      exact asg_run (ife_t c (bin_run sl (lst_run (cons1 (tup2 (bin_run last rfl (ix0 q st)) rfl)) (by show 1 ≤ _; omega) rfl) (add_rows A [(q.1, w + 1)] (by show A.length + 1 ≤ _; omega) st))) rfl
    · rw [if_neg h]
      rw [decide_eq_false h] at c
      exact asg_run (ife_f c add) rfl
theorem e_made {ts : List Int} (hl : ts.length ≤ 1000) (hs : ts.Pairwise (· < ·)) (st : Store) : f__law_made [.lst (ts.map .int)] st = .ok (.lst ((madeI ts).map pairT)) st := by
  have so : sortI ts = ts := (sortI_eq (List.Perm.refl _) (hs.imp fun h => by omega)).symm
  obtain ⟨e', f1, _⟩ := for_fold (ε := Option D) (gt := dgName 2) (fb := l__law_made_1) D.int (fun (acc : List Rw) e => [some (.lst (ts.map .int)), some (.lst (acc.map pairT)), e]) (fun _ => st) mstep (fun acc n => acc.length + n ≤ 1000) ts
    (fun w _ acc e n hP => ⟨_, some (.int w), rfl, .inl (made_step acc w (by omega)), by have := mstep_le acc w; omega⟩) [] none 0 (by show 0 + (0 + _) ≤ _; omega)
  refine runB_rt ?_
  show b__law_made [some (.lst (ts.map .int)), none, none] st = _
  unfold b__law_made
  refine seq_run (asg_run nil_run rfl) ?_
  have it := it_lst (env := [some (.lst (ts.map .int)), some (.lst []), none]) (call_run (f := bSortedA false) (cons1 (fa := dVar 0) rfl) (sorted_ints (ns := ts) (st := st) rfl))
  rw [so] at it
  exact seq_run (for_run it f1) (ret_run rfl)
end K04

namespace K04
open PySem G
theorem fm (i : Int) {j : Int} (h : 0 ≤ j := by decide) : i.fmod j = i % j := Int.fmod_eq_emod_of_nonneg i h
theorem fd (i : Int) {j : Int} (h : 0 ≤ j := by decide) : i.fdiv j = i / j := Int.fdiv_eq_ediv_of_nonneg i h
theorem beqi (i j : Int) : (i == j) = decide (i = j) := by
  by_cases h : i = j <;> simp [h]
theorem lstAt_set {st : Store} {n : Nat} {ds es : List D} (h : lstAt st n = some ds) : lstAt (st.set n (.lst es)) n = some es := by
  unfold lstAt at h ⊢
  have hn : n < st.length := by
    cases q : st[n]? with
    | none => rw [q] at h; cases h
    | some o => exact (List.getElem?_eq_some_iff.mp q).1
  rw [List.getElem?_set_self hn]
theorem roll_in (i many : Int) (h : 1 ≤ many) : 0 ≤ i.fmod many ∧ i.fmod many < many := ⟨Int.fmod_nonneg_of_pos i (by omega), Int.fmod_lt_of_pos i (by omega)⟩
theorem e_roll {st : Store} {n : Nat} {a b c : Int} (many : Int) (hs : lstAt st n = some [.int a, .int b, .int c]) (h1 : 1 ≤ many) (h2 : many ≤ 100000000) :
    ∃ r a' b' c' : Int, 0 ≤ r ∧ r < many ∧ f__law_roll [.ref n, .int many] st = .ok (.int r) (st.set n (.lst [.int a', .int b', .int c'])) := by
  have h3 : many ≠ 0 := by omega
  have h4 : many.natAbs < 1073741824 := by omega
  have h5 : ¬ 100000000 < many := by omega
  have hsn : ∀ es, lstAt (st.set n (.lst es)) n = some es := fun es => lstAt_set hs
  by_cases hc : c = 2 ∨ (c = 1 ∧ 0 < a)
  · refine ⟨a.fmod many, a.fdiv many, b, c, (roll_in a many h1).1, (roll_in a many h1).2, ?_⟩
    show runB 3 (b__law_roll (r__law_roll 3)) _ _ = _
    unfold b__law_roll runB
    rcases hc with rfl | ⟨rfl, h⟩
    · simp [aLeT, dSeq, dIfS, dNot, dB, dChain, dC, dVar, dRet, dRetN, dNext, dAndV, dOrV, dNotV, dAnd, dOr, dIf, dTru, truD, dBin, dCons, dNil, dTup, dLst, mkL, dCall, dAsg, dAug, dPar, dgName, dgTup, dgCons, dgNil, dDrop, R.bind, R.s, R.b, aLe, aLt, aGt, aGe, aSub, aAdd, aMul, aFdiv, aMod, aEq, aNe, aIsN, aNotN, D.isNon, aAddI, aIx, L2.atI, L2.ixN, beqi, seqA, seqL, seqR, okEq, norm, D.isSc, D.isStr, D.dat, D.dats, D.dep, D.deps, D.eqv, D.eqvs, dRaise, dNeg, bSum, bAbs, bInt, bMax2, bMin2, bLen, intsD, dSl, aSl, dP, dNoP, okMul, fm, fd, setAt, dSetL, hs, h3, h4]
    · simp [aLeT, dSeq, dIfS, dNot, dB, dChain, dC, dVar, dRet, dRetN, dNext, dAndV, dOrV, dNotV, dAnd, dOr, dIf, dTru, truD, dBin, dCons, dNil, dTup, dLst, mkL, dCall, dAsg, dAug, dPar, dgName, dgTup, dgCons, dgNil, dDrop, R.bind, R.s, R.b, aLe, aLt, aGt, aGe, aSub, aAdd, aMul, aFdiv, aMod, aEq, aNe, aIsN, aNotN, D.isNon, aAddI, aIx, L2.atI, L2.ixN, beqi, seqA, seqL, seqR, okEq, norm, D.isSc, D.isStr, D.dat, D.dats, D.dep, D.deps, D.eqv, D.eqvs, dRaise, dNeg, bSum, bAbs, bInt, bMax2, bMin2, bLen, intsD, dSl, aSl, dP, dNoP, okMul, fm, fd, setAt, dSetL, hs, h3, h4, h]
  · refine ⟨((a * 48271 + b * 69621 + 11).fmod 2147483647 / 7).fmod many, (a * 48271 + b * 69621 + 11).fmod 2147483647, b + 1, 0, (roll_in _ many h1).1, (roll_in _ many h1).2, ?_⟩
    show runB 3 (b__law_roll (r__law_roll 3)) _ _ = _
    unfold b__law_roll runB
    have e7 : ∀ i : Int, i.fdiv 7 = i / 7 := fun i => fd i
    have hcc : c ≠ 2 := fun z => hc (.inl z)
    by_cases hc1 : c = 1
    · have ha : ¬ 0 < a := fun z => hc (.inr ⟨hc1, z⟩)
      subst hc1
      simp [aLeT, dSeq, dIfS, dNot, dB, dChain, dC, dVar, dRet, dRetN, dNext, dAndV, dOrV, dNotV, dAnd, dOr, dIf, dTru, truD, dBin, dCons, dNil, dTup, dLst, mkL, dCall, dAsg, dAug, dPar, dgName, dgTup, dgCons, dgNil, dDrop, R.bind, R.s, R.b, aLe, aLt, aGt, aGe, aSub, aAdd, aMul, aFdiv, aMod, aEq, aNe, aIsN, aNotN, D.isNon, aAddI, aIx, L2.atI, L2.ixN, beqi, seqA, seqL, seqR, okEq, norm, D.isSc, D.isStr, D.dat, D.dats, D.dep, D.deps, D.eqv, D.eqvs, dRaise, dNeg, bSum, bAbs, bInt, bMax2, bMin2, bLen, intsD, dSl, aSl, dP, dNoP, okMul, fm, fd, setAt, dSetL, hs, hsn, h3, h4, h5, ha, e7]
    · simp [aLeT, dSeq, dIfS, dNot, dB, dChain, dC, dVar, dRet, dRetN, dNext, dAndV, dOrV, dNotV, dAnd, dOr, dIf, dTru, truD, dBin, dCons, dNil, dTup, dLst, mkL, dCall, dAsg, dAug, dPar, dgName, dgTup, dgCons, dgNil, dDrop, R.bind, R.s, R.b, aLe, aLt, aGt, aGe, aSub, aAdd, aMul, aFdiv, aMod, aEq, aNe, aIsN, aNotN, D.isNon, aAddI, aIx, L2.atI, L2.ixN, beqi, seqA, seqL, seqR, okEq, norm, D.isSc, D.isStr, D.dat, D.dats, D.dep, D.deps, D.eqv, D.eqvs, dRaise, dNeg, bSum, bAbs, bInt, bMax2, bMin2, bLen, intsD, dSl, aSl, dP, dNoP, okMul, fm, fd, setAt, dSetL, hs, hsn, h3, h4, h5, hcc, hc1, e7]
theorem plain (a b c : Int) : f__law_plain [] [.lst [.int a, .int b, .int c]] = .ok (.bl true) [.lst [.int a, .int b, .int c]] := by kernel_rfl
theorem e_dice (i : Int) (st : Store) : ∃ a b c : Int, f__law_dice [.int i] st = .ok (.ref st.length) (st ++ [.lst [.int a, .int b, .int c]]) := by
  unfold f__law_dice b__law_dice runB
  by_cases h1 : -10 < i
  · by_cases h2 : i < 10
    · exact ⟨if i < 0 then -i else i, 0, 2, by simp [aLeT, dSeq, dIfS, dNot, dB, dChain, dC, dVar, dRet, dRetN, dNext, dAndV, dOrV, dNotV, dAnd, dOr, dIf, dTru, truD, dBin, dCons, dNil, dTup, dLst, mkL, dCall, dAsg, dAug, dPar, dgName, dgTup, dgCons, dgNil, dDrop, R.bind, R.s, R.b, aLe, aLt, aGt, aGe, aSub, aAdd, aMul, aFdiv, aMod, aEq, aNe, aIsN, aNotN, D.isNon, aAddI, aIx, L2.atI, L2.ixN, beqi, seqA, seqL, seqR, okEq, norm, D.isSc, D.isStr, D.dat, D.dats, D.dep, D.deps, D.eqv, D.eqvs, dRaise, dNeg, bSum, bAbs, bInt, bMax2, bMin2, bLen, intsD, dSl, aSl, dP, dNoP, okMul, fm, fd, h1, h2]⟩
    · exact ⟨i, 1 + i.fmod 1009, if 1000000000000000000 ≤ i then 1 else 0, by simp [aLeT, dSeq, dIfS, dNot, dB, dChain, dC, dVar, dRet, dRetN, dNext, dAndV, dOrV, dNotV, dAnd, dOr, dIf, dTru, truD, dBin, dCons, dNil, dTup, dLst, mkL, dCall, dAsg, dAug, dPar, dgName, dgTup, dgCons, dgNil, dDrop, R.bind, R.s, R.b, aLe, aLt, aGt, aGe, aSub, aAdd, aMul, aFdiv, aMod, aEq, aNe, aIsN, aNotN, D.isNon, aAddI, aIx, L2.atI, L2.ixN, beqi, seqA, seqL, seqR, okEq, norm, D.isSc, D.isStr, D.dat, D.dats, D.dep, D.deps, D.eqv, D.eqvs, dRaise, dNeg, bSum, bAbs, bInt, bMax2, bMin2, bLen, intsD, dSl, aSl, dP, dNoP, okMul, fm, fd, aPow, h1, h2]⟩
  · exact ⟨i, 1 + i.fmod 1009, if 1000000000000000000 ≤ i then 1 else 0, by simp [aLeT, dSeq, dIfS, dNot, dB, dChain, dC, dVar, dRet, dRetN, dNext, dAndV, dOrV, dNotV, dAnd, dOr, dIf, dTru, truD, dBin, dCons, dNil, dTup, dLst, mkL, dCall, dAsg, dAug, dPar, dgName, dgTup, dgCons, dgNil, dDrop, R.bind, R.s, R.b, aLe, aLt, aGt, aGe, aSub, aAdd, aMul, aFdiv, aMod, aEq, aNe, aIsN, aNotN, D.isNon, aAddI, aIx, L2.atI, L2.ixN, beqi, seqA, seqL, seqR, okEq, norm, D.isSc, D.isStr, D.dat, D.dats, D.dep, D.deps, D.eqv, D.eqvs, dRaise, dNeg, bSum, bAbs, bInt, bMax2, bMin2, bLen, intsD, dSl, aSl, dP, dNoP, okMul, fm, fd, aPow, h1]⟩
theorem e_rounds (ns : List Int) : ∃ a b c : Int, f__law_rounds [.scr ns, .int 1] [] = .ok (.lst [.ref 0]) [.lst [.int a, .int b, .int c]] := by
  unfold f__law_rounds b__law_rounds runB
  cases ns with
  | nil =>
    obtain ⟨a, b, c, e⟩ := e_dice 0 []
    exact ⟨a, b, c, by simp [aLeT, dSeq, dIfS, dNot, dB, dChain, dC, dVar, dRet, dRetN, dNext, dAndV, dOrV, dNotV, dAnd, dOr, dIf, dTru, truD, dBin, dCons, dNil, dTup, dLst, mkL, dCall, dAsg, dAug, dPar, dgName, dgTup, dgCons, dgNil, dDrop, R.bind, R.s, R.b, aLe, aLt, aGt, aGe, aSub, aAdd, aMul, aFdiv, aMod, aEq, aNe, aIsN, aNotN, D.isNon, aAddI, aIx, L2.atI, L2.ixN, beqi, seqA, seqL, seqR, okEq, norm, D.isSc, D.isStr, D.dat, D.dats, D.dep, D.deps, D.eqv, D.eqvs, dRaise, dNeg, bSum, bAbs, bInt, bMax2, bMin2, bLen, intsD, dSl, aSl, dP, dNoP, okMul, fm, fd, HT.sIx, cutD, dLc, dIt, gdOf, lcD, gdOk, y__law_rounds_1, dYes, wipeE, e, lstAt]⟩
  | cons i r =>
    obtain ⟨a, b, c, e⟩ := e_dice i []
    have h1 : min 1 (r.length + 1) = 1 := by omega
    exact ⟨a, b, c, by simp [aLeT, dSeq, dIfS, dNot, dB, dChain, dC, dVar, dRet, dRetN, dNext, dAndV, dOrV, dNotV, dAnd, dOr, dIf, dTru, truD, dBin, dCons, dNil, dTup, dLst, mkL, dCall, dAsg, dAug, dPar, dgName, dgTup, dgCons, dgNil, dDrop, R.bind, R.s, R.b, aLe, aLt, aGt, aGe, aSub, aAdd, aMul, aFdiv, aMod, aEq, aNe, aIsN, aNotN, D.isNon, aAddI, aIx, L2.atI, L2.ixN, beqi, seqA, seqL, seqR, okEq, norm, D.isSc, D.isStr, D.dat, D.dats, D.dep, D.deps, D.eqv, D.eqvs, dRaise, dNeg, bSum, bAbs, bInt, bMax2, bMin2, bLen, intsD, dSl, aSl, dP, dNoP, okMul, fm, fd, HT.sIx, cutD, dLc, dIt, gdOf, lcD, gdOk, y__law_rounds_1, dYes, wipeE, e, lstAt, h1]⟩
end K04

namespace K04
open PySem G
/-! rows drawn -/
theorem set_same {st : Store} {n : Nat} {L : List D} (h : lstAt st n = some L) : st.set n (.lst L) = st := by
  have h2 := lstAt_eq h
  apply List.ext_getElem?
  intro j
  by_cases hj : n = j
  · subst hj
    rw [List.getElem?_set_self (List.getElem?_eq_some_iff.mp h2).1, h2]
  · rw [List.getElem?_set_ne hj]
theorem roll_run {many : Int} {i : Nat} {env : G.Env} {st st' : Store} {n : Nat} {r : D} (he : env[i]? = some (some (.ref n))) (h : f__law_roll [.ref n, .int many] st = .ok r st') : dCall f__law_roll (dCons (dVar i) (dCons (dC (.int many)) (dNil))) env st = .ok r st' :=
  call_run (cons2 (by unfold dVar; rw [he]) rfl) h
/-- a comprehension whose elements draw -/
theorem lc_draw {α β : Type} {gt : DG} {fe : DE} {env : G.Env} {n : Nat} (mk : α → D) (v : β → D) (e' : α → G.Env) (Rr : α → β → Prop)
    (h : ∀ a s x y z, lstAt s n = some [.int x, .int y, .int z] → gt (mk a) env = some (e' a) ∧ ∃ (b : β) (x' y' z' : Int), Rr a b ∧ fe (e' a) s = .ok (v b) (s.set n (.lst [.int x', .int y', .int z']))) :
    ∀ (l : List α) (s : Store) (x y z : Int), lstAt s n = some [.int x, .int y, .int z] →
    ∃ (bs : List β) (x' y' z' : Int), bs.length = l.length ∧ (∀ b ∈ bs, ∃ a ∈ l, Rr a b) ∧ lcD gt dYes fe none (l.map mk) env s = .ok (bs.map v) (s.set n (.lst [.int x', .int y', .int z']))
  | [], s, x, y, z, hs => ⟨[], x, y, z, rfl, (fun b hb => by cases hb), by rw [set_same hs]; rfl⟩
  | a :: l, s, x, y, z, hs => by
    obtain ⟨h1, b, x1, y1, z1, hR, h2⟩ := h a s x y z hs
    obtain ⟨bs, x2, y2, z2, i1, i2, i3⟩ := lc_draw mk v e' Rr h l _ x1 y1 z1 (lstAt_set (es := [.int x1, .int y1, .int z1]) hs)
    rw [List.set_set] at i3
    refine ⟨b :: bs, x2, y2, z2, by simp [i1], fun c hc => ?_, ?_⟩
    · rcases List.mem_cons.mp hc with rfl | hc
      · exact ⟨a, List.mem_cons_self, hR⟩
      · obtain ⟨a', ha', hr⟩ := i2 c hc
        exact ⟨a', List.mem_cons_of_mem _ ha', hr⟩
    · simp only [List.map_cons, lcD, gdOk, if_true, h1, dYes, R.b_ok, h2, i3]
theorem rng1_run {f : DE} {env : G.Env} {st st' : Store} {j : Int} (h : f env st = .ok (.int j) st') (hb : bnd j = true) : dRng1 f env st = .ok (rangeD 0 j, none) st' := by
  unfold dRng1
  rw [h, R.bind_ok]
  dsimp only
  rw [if_pos hb]
theorem bnd_ok1 {j : Int} (h : -1000000 ≤ j ∧ j ≤ 1000000) : bnd j = true := by
  unfold bnd
  rw [decide_eq_true (by omega), decide_eq_true (by omega)]
  rfl
theorem range_len (lo hi : Int) : (rangeD lo hi).length = (hi - lo).toNat := by
  unfold rangeD
  simp
theorem lcg_run {fi : DI} {gt : DG} {ft : DT} {fe : DE} {vs : List Nat} {env : G.Env} {st st1 st2 : Store} {ds out : List D} (hi : fi env st = .ok (ds, none) st1) (hl : ds.length ≤ 16777216) (h : lcD gt ft fe none ds (wipeE env vs) st1 = .ok out st2) : dLc false fi gt ft fe vs env st = .ok (.lst out) st2 := by
  unfold dLc
  rw [hi, R.bind_ok, if_pos hl, h, R.b_ok]
  rfl
theorem it_lst2 {f : DE} {env : G.Env} {st st1 : Store} {L : List D} (hf : f env st = .ok (.lst L) st1) : dIt f env st = .ok (L, none) st1 := by
  unfold dIt
  rw [hf, R.bind_ok]
  rfl
theorem head_ix (x : D) (xs : List D) (st : Store) : aIx (.lst (x :: xs)) (.int 0) st = .ok x st := by
  show (match L2.atI (x :: xs) 0 with
      | some d => R.ok d st
      | none => R.bad) = _
  have : L2.atI (x :: xs) 0 = some x := by
    unfold L2.atI L2.ixN
    rw [if_pos (Int.le_refl _), if_pos (by rw [List.length_cons]; omega)]
    rfl
  rw [this]
theorem e_rows {st : Store} {n : Nat} {a b c : Int} (hs : lstAt st n = some [.int a, .int b, .int c]) :
    ∃ (rows : List Rw) (a' b' c' : Int), rows.length ≤ 5 ∧ Vl rows ∧ (∀ p ∈ rows, 0 ≤ p.1 ∧ p.2 ≤ 32) ∧ f__law_rows [.ref n] st = .ok (.lst (rows.map pairT)) (st.set n (.lst [.int a', .int b', .int c'])) := by
  obtain ⟨r, a1, b1, c1, p1, q1, s1⟩ := e_roll 6 hs (by decide) (by decide)
  have t1 := lstAt_set (es := [.int a1, .int b1, .int c1]) hs
  obtain ⟨ws, a2, b2, c2, l2, m2, s2⟩ := lc_draw (gt := dgName 2) (fe := y__law_rows_1) (env := [some (.ref n), none, none]) (n := n) (fun d : D => d) D.int (fun d => [some (.ref n), none, some d]) (fun _ i => 0 ≤ i ∧ i < 25) (fun d s x y z h => by
    obtain ⟨r, a1, b1, c1, p1, q1, s1⟩ := e_roll 25 h (by decide) (by decide)
    exact ⟨rfl, r, a1, b1, c1, ⟨p1, q1⟩, roll_run rfl s1⟩) (rangeD 0 r) _ a1 b1 c1 t1
  have t2 := lstAt_set (es := [.int a2, .int b2, .int c2]) t1
  rw [List.set_set] at s2 t2
  obtain ⟨rows, a3, b3, c3, l3, m3, s3⟩ := lc_draw (gt := dgName 1) (fe := y__law_rows_2) (env := [some (.ref n), none, none]) (n := n) D.int pairT (fun i => [some (.ref n), some (.int i), none]) (fun i p => p.1 = i ∧ i < p.2 ∧ p.2 ≤ i + 8) (fun i s x y z h => by
    obtain ⟨r, a1, b1, c1, p1, q1, s1⟩ := e_roll 8 h (by decide) (by decide)
    exact ⟨rfl, (i, i + 1 + r), a1, b1, c1, ⟨rfl, by show i < i + 1 + r; omega, by show i + 1 + r ≤ i + 8; omega⟩, tup2 rfl (bin_run (x := .int (i + 1)) rfl (roll_run rfl s1) rfl)⟩) ws _ a2 b2 c2 t2
  rw [List.set_set] at s3
  rw [range_len] at l2
  refine ⟨rows, a3, b3, c3, by omega, fun p hp => ?_, fun p hp => ?_, runB_rt ?_⟩
  · obtain ⟨i, hi, h1, h2, h3⟩ := m3 p hp
    omega
  · obtain ⟨i, hi, h1, h2, h3⟩ := m3 p hp
    obtain ⟨d, hd, h4⟩ := m2 i hi
    omega
  · show b__law_rows [some (.ref n), none, none] st = _
    unfold b__law_rows
    rw [List.map_id'] at s2
    have q1 : dLc false (dRng1 (dCall f__law_roll (dCons (dVar 0) (dCons (dC (.int 6)) (dNil))))) (dgName 2) (dYes) y__law_rows_1 [2] [some (.ref n), none, none] st = .ok (.lst (ws.map .int)) (st.set n (.lst [.int a2, .int b2, .int c2])) :=
      lcg_run (rng1_run (roll_run rfl s1) (bnd_ok1 (by omega))) (by rw [range_len]; omega) s2
    exact ret_run (lcg_run (it_lst2 q1) (by rw [List.length_map]; omega) s3)
/-! how they lie, by the law -/
theorem add_ds (xs ys : List D) (h : xs.length + ys.length ≤ 16777216) (st : Store) : aAdd false (.lst xs) (.lst ys) st = .ok (.lst (xs ++ ys)) st := by
  show (if xs.length + ys.length ≤ 16777216 then mkL false (xs ++ ys) st else .bad) = _
  rw [if_pos h]
  rfl
def lieW (p q : Rw) (b : Bool) : List D := match llI p q with
  | some s => [.tup [.str (s : Str), .bl b]]
  | none => []
theorem lies_step (o t : D) (p q : Rw) (b : Bool) (ws : List D) (hl : ws.length ≤ 10) (st : Store) :
    l__law_lies_1 [some o, some t, some (.lst ws), some (pairT p), some (pairT q), some (.bl b)] st = .nx [some o, some t, some (.lst (ws ++ lieW p q b)), some (pairT p), some (pairT q), some (.bl b)] st := by
  obtain ⟨env, he⟩ : ∃ env : G.Env, env = [some o, some t, some (.lst ws), some (pairT p), some (pairT q), some (.bl b)] := ⟨_, rfl⟩
  have res : ∀ L, env.set 2 (some (.lst L)) = [some o, some t, some (.lst L), some (pairT p), some (pairT q), some (.bl b)] := fun L => by rw [he]; rfl
  have a0 : dBin aIx (dVar 3) (dC (.int 0)) env st = .ok (.int p.1) st := by rw [he]; rfl
  have a1 : dBin aIx (dVar 3) (dC (.int 1)) env st = .ok (.int p.2) st := by rw [he]; rfl
  have b0 : dBin aIx (dVar 4) (dC (.int 0)) env st = .ok (.int q.1) st := by rw [he]; rfl
  have b1 : dBin aIx (dVar 4) (dC (.int 1)) env st = .ok (.int q.2) st := by rw [he]; rfl
  have v2 : dVar 2 env st = .ok (.lst ws) st := by rw [he]; rfl
  have v3 : dVar 3 env st = .ok (pairT p) st := by rw [he]; rfl
  have v4 : dVar 4 env st = .ok (pairT q) st := by rw [he]; rfl
  have v5 : dVar 5 env st = .ok (.bl b) st := by rw [he]; rfl
  have word : ∀ {fe : DE} {x : Str}, fe env st = .ok (.str x) st → dAsg (dBin (aAdd false) (dVar 2) (dLst false (dCons (dTup (dCons fe (dCons (dVar 5) (dNil)))) (dNil)))) (dgName 2) env st = .nx [some o, some t, some (.lst (ws ++ [.tup [.str x, .bl b]])), some (pairT p), some (pairT q), some (.bl b)] st := fun {fe x} h => by
    rw [← res]
    exact asg_run (bin_run v2 (lst_run (cons1 (tup2 h v5)) (by show 1 ≤ _; omega) rfl) (add_ds _ _ (by show ws.length + 1 ≤ _; omega) st)) rfl
  have stay : dNext env st = .nx [some o, some t, some (.lst (ws ++ [])), some (pairT p), some (pairT q), some (.bl b)] st := by rw [List.append_nil, he]; rfl
  have tst : ∀ {h : D → D → Store → R D} {fa fb : DE} {x y : D} {c : Bool}, fa env st = .ok x st → fb env st = .ok y st → h x y st = .ok (.bl c) st → dB (dBin h fa fb) env st = .ok c st := fun h1 h2 h3 => b_run (bin_run h1 h2 h3)
  have t1 := tst v3 v4 (eq_pair p q st)
  have t2 := tst (h := aLeT) a1 b0 rfl
  have t2' := tst (h := aLt) a1 b0 rfl
  have t3 := and_run (tst a0 b0 (eq_int _ _ st)) fun _ => tst (h := aLt) (c := decide (p.2 < q.2)) a1 b1 rfl
  have t4 := and_run (tst a1 b1 (eq_int _ _ st)) fun _ => tst (h := aGt) (c := decide (q.1 < p.1)) a0 b0 rfl
  have t5 := and_run (tst (h := aLt) (c := decide (q.1 < p.1)) b0 a0 rfl) fun _ => tst (h := aLt) (c := decide (p.2 < q.2)) a1 b1 rfl
  have t6 : dB (dChain3 aLt aLt aLt (dBin aIx (dVar 3) (dC (.int 0))) (dBin aIx (dVar 4) (dC (.int 0))) (dBin aIx (dVar 3) (dC (.int 1))) (dBin aIx (dVar 4) (dC (.int 1)))) env st = .ok (decide (p.1 < q.1) && (decide (q.1 < p.2) && decide (p.2 < q.2))) st := b_run (chain3_run a0 b0 rfl a1 rfl b1 rfl)
  rw [← Bool.decide_and] at t3 t4 t5
  rw [← Bool.decide_and, ← Bool.decide_and] at t6
  rw [← he]
  unfold l__law_lies_1 lieW llI
  by_cases c1 : p = q
  · rw [if_pos c1]; rw [decide_eq_true c1] at t1
    exact if_t t1 (word rfl)
  rw [if_neg c1]; rw [decide_eq_false c1] at t1
  refine if_f t1 ?_
  by_cases c2 : p.2 ≤ q.1
  · rw [if_pos c2]; rw [decide_eq_true c2] at t2
    refine if_t t2 (word ?_)
    by_cases c3 : p.2 < q.1
    · rw [if_pos c3]; rw [decide_eq_true c3] at t2'
      exact ife_t t2' rfl
    · rw [if_neg c3]; rw [decide_eq_false c3] at t2'
      exact ife_f t2' rfl
  rw [if_neg c2]; rw [decide_eq_false c2] at t2
  refine if_f t2 ?_
  by_cases c3 : p.1 = q.1 ∧ p.2 < q.2
  · rw [if_pos c3]; rw [decide_eq_true c3] at t3
    exact if_t t3 (word rfl)
  rw [if_neg c3]; rw [decide_eq_false c3] at t3
  refine if_f t3 ?_
  by_cases c4 : p.2 = q.2 ∧ p.1 > q.1
  · rw [if_pos c4]; rw [decide_eq_true (show p.2 = q.2 ∧ q.1 < p.1 from c4)] at t4
    exact if_t t4 (word rfl)
  rw [if_neg c4]; rw [decide_eq_false (show ¬ (p.2 = q.2 ∧ q.1 < p.1) from c4)] at t4
  refine if_f t4 ?_
  by_cases c5 : q.1 < p.1 ∧ p.2 < q.2
  · rw [if_pos c5]; rw [decide_eq_true c5] at t5
    exact if_t t5 (word rfl)
  rw [if_neg c5]; rw [decide_eq_false c5] at t5
  refine if_f t5 ?_
  by_cases c6 : p.1 < q.1 ∧ q.1 < p.2 ∧ p.2 < q.2
  · rw [if_pos c6]; rw [decide_eq_true c6] at t6
    exact if_t t6 (word rfl)
  rw [if_neg c6]; rw [decide_eq_false c6] at t6
  exact if_f t6 stay
theorem lieW_len (p q : Rw) (b : Bool) : (lieW p q b).length ≤ 1 := by
  unfold lieW
  split
  · exact Nat.le_refl _
  · exact Nat.zero_le _
theorem e_lies {p q : Rw} (hp : p.1 < p.2) (hq : q.1 < q.2) (st : Store) : f__law_lies [pairT p, pairT q] st = .ok (liesD p q) st := by
  have s1 := lies_step (pairT p) (pairT q) p q false [] (by show 0 ≤ _; omega) st
  have s2 := lies_step (pairT p) (pairT q) q p true ([] ++ lieW p q false) (by have := lieW_len p q false; rw [List.nil_append]; omega) st
  rw [List.nil_append] at s1 s2
  refine runB_rt ?_
  show b__law_lies [some (pairT p), some (pairT q), none, none, none, none] st = _
  unfold b__law_lies
  refine seq_run (asg_run nil_run rfl) ?_
  have it : dIt (dLst false (dCons (dTup (dCons (dVar 0) (dCons (dVar 1) (dCons (dC (.bl false)) (dNil))))) (dCons (dTup (dCons (dVar 1) (dCons (dVar 0) (dCons (dC (.bl true)) (dNil))))) (dNil)))) [some (pairT p), some (pairT q), some (.lst []), none, none, none] st = .ok ([.tup [pairT p, pairT q, .bl false], .tup [pairT q, pairT p, .bl true]], none) st := rfl
  have lp : forD (dgTup 3 (dgCons (dgName 3) (dgCons (dgName 4) (dgCons (dgName 5) (dgNil))))) l__law_lies_1 none [.tup [pairT p, pairT q, .bl false], .tup [pairT q, pairT p, .bl true]] [some (pairT p), some (pairT q), some (.lst []), none, none, none] st = .nx [some (pairT p), some (pairT q), some (.lst (lieW p q false ++ lieW q p true)), some (pairT q), some (pairT p), some (.bl true)] st := by
    have g1 : dgTup 3 (dgCons (dgName 3) (dgCons (dgName 4) (dgCons (dgName 5) (dgNil)))) (.tup [pairT p, pairT q, .bl false]) [some (pairT p), some (pairT q), some (.lst []), none, none, none] = some [some (pairT p), some (pairT q), some (.lst []), some (pairT p), some (pairT q), some (.bl false)] := rfl
    have g2 : dgTup 3 (dgCons (dgName 3) (dgCons (dgName 4) (dgCons (dgName 5) (dgNil)))) (.tup [pairT q, pairT p, .bl true]) [some (pairT p), some (pairT q), some (.lst (lieW p q false)), some (pairT p), some (pairT q), some (.bl false)] = some [some (pairT p), some (pairT q), some (.lst (lieW p q false)), some (pairT q), some (pairT p), some (.bl true)] := rfl
    simp only [forD, gdOk, if_true, g1, s1, loopK, g2, s2]
  refine seq_run (for_run it lp) (ret_run (bin_run (x := .lst (lieW p q false ++ lieW q p true)) rfl rfl ?_))
  unfold lieW liesD
  rw [← pl_ll, ← pl_ll]
  cases h : plI p q with
  | some s => exact head_ix _ _ _
  | none =>
    obtain ⟨w, hw⟩ := ll_some hp hq h
    rw [hw]
    exact head_ix _ _ _
/-! sets, clashes -/
def setT (s : List Int) : D := .tup (s.map .int)
theorem sets_step (o : D) (e3 : Option D) (acc : List (List Int)) (t : Int) (h1 : acc.length ≤ 1000) (h2 : ∀ s ∈ acc, s.length ≤ 1000) (st : Store) :
    l__law_sets_1 [some o, some (.lst (acc.map setT)), some (.int t), e3] st = .nx [some o, some (.lst ((acc ++ acc.map (· ++ [t])).map setT)), some (.int t), e3] st := by
  unfold l__law_sets_1
  have q := lcM_run (fi := dIt (dVar 1)) (gt := dgName 3) (fe := y__law_sets_1) (vs := [3]) (env := [some o, some (.lst (acc.map setT)), some (.int t), e3]) (st := st) setT (fun s => setT (s ++ [t])) (fun s => [some o, some (.lst (acc.map setT)), some (.int t), some (setT s)]) acc (it_lst rfl) (by omega) fun s hs => ⟨rfl, bin_run (x := setT s) rfl (tup1 rfl) (by
    show (if (s.map D.int).length + 1 ≤ 16777216 then R.ok (D.tup (s.map D.int ++ [.int t])) st else .bad) = _
    rw [if_pos (by rw [List.length_map]; have := h2 s hs; omega)]
    unfold setT
    rw [List.map_append]
    rfl)⟩
  refine asg_run (bin_run rfl q ?_) rfl
  rw [List.map_append, List.map_map]
  exact add_ds _ _ (by rw [List.length_map, List.length_map]; omega) st
theorem e_sets {n : Nat} (hn : n ≤ 5) (st : Store) : f__law_sets [.lst ((upto n).map .int)] st = .ok (.lst ((setsI (upto n)).map setT)) st := by
  have ul := upto_len n
  have pw : 2 ^ n ≤ 2 ^ 5 := Nat.pow_le_pow_right (by decide) hn
  obtain ⟨e', f1, _⟩ := for_fold (ε := Option D × Option D) (gt := dgName 2) (fb := l__law_sets_1) D.int (fun (acc : List (List Int)) e => [some (.lst ((upto n).map .int)), some (.lst (acc.map setT)), e.1, none]) (fun _ => st) (fun acc t => acc ++ acc.map (· ++ [t])) (fun acc m => acc.length * 2 ^ m ≤ 32 ∧ ∀ s ∈ acc, s.length + m ≤ 5) (upto n)
    (fun t _ acc e m hP => by
      have hlen : acc.length ≤ 32 := by
        have : acc.length * 1 ≤ acc.length * 2 ^ (m + 1) := Nat.mul_le_mul_left _ (Nat.one_le_two_pow)
        omega
      refine ⟨_, (some (.int t), none), rfl, .inl (sets_step _ none acc t (by omega) (fun s hs => by have := hP.2 s hs; omega) st), ?_, fun s hs => ?_⟩
      · have := hP.1
        rw [Nat.pow_succ] at this
        rw [List.length_append, List.length_map, Nat.add_mul]
        have e : acc.length * (2 ^ m * 2) = acc.length * 2 ^ m + acc.length * 2 ^ m := by rw [← Nat.mul_assoc]; omega
        omega
      · rcases List.mem_append.mp hs with hs | hs
        · have := hP.2 s hs; omega
        · obtain ⟨s', hs', rfl⟩ := List.mem_map.mp hs
          have := hP.2 s' hs'
          rw [List.length_append]
          show s'.length + 1 + m ≤ 5
          omega) [[]] (none, none) 0 (by
      rw [ul]
      refine ⟨?_, fun s hs => ?_⟩
      · show 1 * 2 ^ (0 + n) ≤ 32
        rw [Nat.zero_add, Nat.one_mul]; exact pw
      · rw [List.mem_singleton.mp hs]; show 0 + (0 + n) ≤ 5; omega)
  refine runB_rt ?_
  show b__law_sets [some (.lst ((upto n).map .int)), none, none, none] st = _
  unfold b__law_sets
  refine seq_run (asg_run (d := .lst ([[]].map setT)) rfl rfl) ?_
  exact seq_run (for_run (it_lst rfl) f1) (ret_run rfl)
theorem clash_loop {rows : List Rw} {s : List Int} (hs : ∀ k ∈ s, 0 ≤ k ∧ k < rows.length) (hl : s.length ≤ 1000) (st : Store) : ∀ (l : List Int) (e2 : Option D), (∀ k ∈ l, 0 ≤ k ∧ k < rows.length) → ∃ x,
    forD (dgName 2) l__law_clash_1 none (l.map .int) [some (.lst (rows.map pairT)), some (setT s), e2, none] st =
      if (l.any fun k => s.any fun j => decide (j < k) && (decide ((rowAt rows j).1 < (rowAt rows k).2) && decide ((rowAt rows k).1 < (rowAt rows j).2))) = true then .rt (.bl true) st else .nx [some (.lst (rows.map pairT)), some (setT s), x, none] st
  | [], e2, _ => ⟨e2, rfl⟩
  | k :: l, e2, hk => by
    obtain ⟨x, ih⟩ := clash_loop hs hl st l (some (.int k)) fun j hj => hk j (List.mem_cons_of_mem _ hj)
    refine ⟨x, ?_⟩
    have kk := hk k List.mem_cons_self
    obtain ⟨c, hc⟩ : ∃ c : Bool, c = s.any fun j => decide (j < k) && (decide ((rowAt rows j).1 < (rowAt rows k).2) && decide ((rowAt rows k).1 < (rowAt rows j).2)) := ⟨_, rfl⟩
    have q := lcF_run (fi := dIt (dVar 1)) (gt := dgName 3) (ft := dAnd (dB (dBin aLt (dVar 3) (dVar 2))) (dAnd (dB (dBin aLt (dBin aIx (dBin aIx (dVar 0) (dVar 3)) (dC (.int 0))) (dBin aIx (dBin aIx (dVar 0) (dVar 2)) (dC (.int 1))))) (dB (dBin aLt (dBin aIx (dBin aIx (dVar 0) (dVar 2)) (dC (.int 0))) (dBin aIx (dBin aIx (dVar 0) (dVar 3)) (dC (.int 1))))))) (fe := y__law_clash_1) (vs := [3]) (env := [some (.lst (rows.map pairT)), some (setT s), some (.int k), none]) (st := st) D.int (fun _ => D.int 1) (fun j => [some (.lst (rows.map pairT)), some (setT s), some (.int k), some (.int j)])
      (fun j => decide (j < k) && (decide ((rowAt rows j).1 < (rowAt rows k).2) && decide ((rowAt rows k).1 < (rowAt rows j).2))) s (it_tup rfl) (by omega) fun j hj => by
        have rj : ∀ (i : Nat) (S : Store), dBin aIx (dBin aIx (dVar 0) (dVar 3)) (dC (.int 0)) [some (.lst (rows.map pairT)), some (setT s), some (.int k), some (.int j)] S = .ok (.int (rowAt rows j).1) S := fun _ S => bin_run (bin_run rfl rfl (ix_row (hs j hj) S)) rfl (ix0 _ _)
        have rj1 : ∀ (S : Store), dBin aIx (dBin aIx (dVar 0) (dVar 3)) (dC (.int 1)) [some (.lst (rows.map pairT)), some (setT s), some (.int k), some (.int j)] S = .ok (.int (rowAt rows j).2) S := fun S => bin_run (bin_run rfl rfl (ix_row (hs j hj) S)) rfl (ix1 _ _)
        have rk : ∀ (S : Store), dBin aIx (dBin aIx (dVar 0) (dVar 2)) (dC (.int 0)) [some (.lst (rows.map pairT)), some (setT s), some (.int k), some (.int j)] S = .ok (.int (rowAt rows k).1) S := fun S => bin_run (bin_run rfl rfl (ix_row kk S)) rfl (ix0 _ _)
        have rk1 : ∀ (S : Store), dBin aIx (dBin aIx (dVar 0) (dVar 2)) (dC (.int 1)) [some (.lst (rows.map pairT)), some (setT s), some (.int k), some (.int j)] S = .ok (.int (rowAt rows k).2) S := fun S => bin_run (bin_run rfl rfl (ix_row kk S)) rfl (ix1 _ _)
        exact ⟨rfl, and_run (b_run rfl) fun _ => and_run (b_run (bin_run (rj 0 _) (rk1 _) rfl)) fun _ => b_run (bin_run (rk _) (rj1 _) rfl), fun _ => rfl⟩
    have t := b_run (bin_run q nil_run (ones_ne _ s st))
    rw [← hc] at t
    have body : l__law_clash_1 [some (.lst (rows.map pairT)), some (setT s), some (.int k), none] st = if c = true then .rt (.bl true) st else .nx [some (.lst (rows.map pairT)), some (setT s), some (.int k), none] st := by
      unfold l__law_clash_1
      cases c with
      | true => exact if_t t rfl
      | false => exact if_f t rfl
    rw [List.any_cons, ← hc]
    have g : dgName 2 (.int k) [some (.lst (rows.map pairT)), some (setT s), e2, none] = some [some (.lst (rows.map pairT)), some (setT s), some (.int k), none] := rfl
    simp only [List.map_cons, forD, gdOk, if_true, g, body]
    cases c with
    | true => rfl
    | false =>
      rw [if_neg Bool.false_ne_true, Bool.false_or]
      exact ih
theorem e_clash {rows : List Rw} {s : List Int} (hs : ∀ k ∈ s, 0 ≤ k ∧ k < rows.length) (hl : s.length ≤ 1000) (st : Store) : f__law_clash [.lst (rows.map pairT), setT s] st = .ok (.bl (clashI rows s)) st := by
  obtain ⟨x, lp⟩ := clash_loop hs hl st s none hs
  refine runB_rt ?_
  show b__law_clash [some (.lst (rows.map pairT)), some (setT s), none, none] st = _
  unfold b__law_clash
  unfold clashI
  split at lp
  · rename_i c
    rw [c]
    exact seq_rt (for_run (it_tup rfl) lp)
  · rename_i c
    rw [Bool.not_eq_true] at c
    rw [c]
    exact seq_run (for_run (it_tup rfl) lp) (ret_run rfl)
end K04

namespace K04
open PySem G
/-! equal things -/
mutual
theorem eqv_self : ∀ {d : D}, d.dat = true → D.eqv d d = true
  | .non, _ => rfl
  | .bl b, _ => by cases b <;> rfl
  | .int i, _ => beq_self_eq_true i
  | .str x, _ => by show (x == x) = true; simp
  | .lst xs, h => eqvs_self (show D.dats xs = true from h)
  | .tup xs, h => eqvs_self (show D.dats xs = true from h)
  | .dic _ _, h => by cases h
  | .ref _, h => by cases h
  | .fn _, h => by cases h
  | .lam _, h => by cases h
  | .scr _, h => by cases h
theorem eqvs_self : ∀ {ds : List D}, D.dats ds = true → D.eqvs ds ds = true
  | [], _ => rfl
  | d :: ds, h => by
    have h : (d.dat && D.dats ds) = true := h
    rw [Bool.and_eq_true] at h
    show (D.eqv d d && D.eqvs ds ds) = true
    rw [eqv_self h.1, eqvs_self h.2]
    rfl
end
theorem ne_self {d : D} {st : Store} (hn : norm st d = d) (h1 : d.dat = true) (h2 : d.dep ≤ 64) : aNe d d st = .ok (.bl false) st := by
  unfold aNe
  rw [hn]
  have : okEq d d = true := by
    unfold okEq
    rw [h1, decide_eq_true h2]
    simp
  rw [if_pos this, eqv_self h1]
  rfl
theorem ne_rows (l : List Rw) (st : Store) : aNe (.lst (l.map pairT)) (.lst (l.map pairT)) st = .ok (.bl false) st :=
  ne_self rfl (dats_pairs l) (by have := deps_pairs l; show D.deps _ + 1 ≤ 64; omega)
theorem ne_ints (l : List Int) (st : Store) : aNe (.lst (l.map .int)) (.lst (l.map .int)) st = .ok (.bl false) st :=
  ne_self rfl (dats_int l) (by have := deps_int l; show D.deps _ + 1 ≤ 64; omega)
theorem ne_i (i : Int) (st : Store) : aNe (.int i) (.int i) st = .ok (.bl false) st := ne_self rfl rfl (Nat.zero_le _)
theorem bls : ∀ l : List Bool, D.dats (l.map .bl) = true ∧ D.deps (l.map .bl) ≤ 1
  | [] => ⟨rfl, Nat.zero_le _⟩
  | b :: l => by
    obtain ⟨h1, h2⟩ := bls l
    refine ⟨?_, ?_⟩
    · show (true && D.dats (l.map .bl)) = true
      rw [h1]; rfl
    · show max 0 (D.deps (l.map .bl)) ≤ 1
      omega
theorem ne_bls (l : List Bool) (st : Store) : aNe (.lst (l.map .bl)) (.lst (l.map .bl)) st = .ok (.bl false) st :=
  ne_self rfl (bls l).1 (by have := (bls l).2; show D.deps _ + 1 ≤ 64; omega)
theorem ne_bl (a b : Bool) (st : Store) : aNe (.bl a) (.bl b) st = .ok (.bl (a != b)) st := by
  cases a <;> cases b <;> rfl
theorem ne_emp (st : Store) : aNe (.lst []) (.lst []) st = .ok (.bl false) st := rfl
/-- where the two are the same, go on -/
theorem pass {A B : DE} {env : G.Env} {st : Store} {v : D} (hA : A env st = .ok v st) (hB : B env st = .ok v st) (hne : aNe v v st = .ok (.bl false) st) : dIfS (dB (dBin aNe A B)) (dRet (dC (.bl false))) dNext env st = .nx env st :=
  if_f (b_run (bin_run hA hB hne)) rfl
theorem list_run {f : DE} {env : G.Env} {st : Store} {L : List D} (h : f env st = .ok (.tup L) st) : dCall (bList false) (dCons f dNil) env st = .ok (.lst L) st :=
  call_run (cons1 h) rfl
theorem in_run (neg : Bool) (t : Int) (l : List Int) (st : Store) : aIn neg (.int t) (.lst (l.map .int)) st = .ok (.bl (if neg = true then !decide (t ∈ l) else decide (t ∈ l))) st := by
  show (if (true = true ∧ (l.map D.int).all D.isSc = true) then R.ok (D.bl (if neg = true then !((l.map D.int).any fun d => D.eqv d (.int t)) else (l.map D.int).any fun d => D.eqv d (.int t))) st else .bad) = _
  have a : (l.map D.int).all D.isSc = true := by
    rw [List.all_map, List.all_eq_true]
    exact fun x _ => rfl
  have b : ((l.map D.int).any fun d => D.eqv d (.int t)) = decide (t ∈ l) := by
    rw [List.any_map, Bool.eq_iff_iff, List.any_eq_true, decide_eq_true_eq]
    constructor
    · rintro ⟨x, hx, e⟩
      have e : (x == t) = true := e
      rw [beq_iff_eq] at e
      rw [← e]; exact hx
    · intro h
      exact ⟨t, h, show (t == t) = true by simp⟩
  rw [if_pos ⟨rfl, a⟩, b]
/-! times -/
def TI : List Int := (List.range 64).map fun j => -12 + (j : Nat)
theorem TI_mem {t : Int} : t ∈ TI ↔ -12 ≤ t ∧ t < 52 := by
  unfold TI
  rw [List.mem_map]
  constructor
  · rintro ⟨j, hj, rfl⟩
    have := List.mem_range.mp hj
    omega
  · intro h
    exact ⟨(t + 12).toNat, List.mem_range.mpr (by omega), by omega⟩
theorem asc_map {k : Nat} (a : Int) : ((List.range k).map fun j : Nat => a + (j : Nat)).Pairwise (· < ·) := by
  rw [List.pairwise_map]
  exact List.pairwise_lt_range.imp fun h => by omega
theorem TI_asc : TI.Pairwise (· < ·) := asc_map _
theorem TI_len : TI.length = 64 := by simp [TI]
def rngI (s e : Int) : List Int := (List.range (e - s).toNat).map fun j => s + (j : Nat)
theorem rng_eq (s e : Int) : rangeD s e = (rngI s e).map .int := by
  unfold rangeD rngI
  rw [List.map_map]
  rfl
theorem rngI_mem {s e t : Int} : t ∈ rngI s e ↔ s ≤ t ∧ t < e := by
  unfold rngI
  rw [List.mem_map]
  constructor
  · rintro ⟨j, hj, rfl⟩
    have := List.mem_range.mp hj
    omega
  · intro h
    exact ⟨(t - s).toNat, List.mem_range.mpr (by omega), by omega⟩
theorem rngI_asc (s e : Int) : (rngI s e).Pairwise (· < ·) := asc_map _
theorem rngI_len (s e : Int) : (rngI s e).length = (e - s).toNat := by simp [rngI]
theorem rng2_run {f h : DE} {env : G.Env} {st : Store} {i j : Int} (h1 : f env st = .ok (.int i) st) (h2 : h env st = .ok (.int j) st) (b1 : -1000000 ≤ i ∧ i ≤ 1000000) (b2 : -1000000 ≤ j ∧ j ≤ 1000000) : dRng2 f h env st = .ok ((rngI i j).map .int, none) st := by
  unfold dRng2
  rw [h1, R.bind_ok, h2, R.bind_ok]
  dsimp only
  rw [if_pos ⟨bnd_ok1 b1, bnd_ok1 b2⟩, rng_eq]
theorem rng1_runI {f : DE} {env : G.Env} {st : Store} {j : Int} (h1 : f env st = .ok (.int j) st) (b1 : -1000000 ≤ j ∧ j ≤ 1000000) : dRng1 f env st = .ok ((rngI 0 j).map .int, none) st := by
  rw [rng1_run h1 (bnd_ok1 b1), rng_eq]
theorem times_run (st : Store) : rng3 (.int (-12)) (.int 52) (.int 1) st = .ok (TI.map .int) st := rfl
/-- rows drawn: few, with times in the law's -/
structure Dr (l : List Rw) : Prop where
  len : l.length ≤ 5
  v : Vl l
  b : ∀ p ∈ l, 0 ≤ p.1 ∧ p.2 ≤ 32
theorem Dr.at {l : List Rw} (h : Dr l) {t : Int} (ht : atR l t = true) : 0 ≤ t ∧ t < 32 := by
  obtain ⟨p, hp, h1, h2⟩ := atR_iff.mp ht
  have := h.b p hp
  omega
def mineI (l : List Rw) : List Int := TI.filter fun t => atR l t
theorem mine_mem {l : List Rw} (h : Dr l) {t : Int} : t ∈ mineI l ↔ atR l t = true := by
  unfold mineI
  rw [List.mem_filter, TI_mem]
  exact ⟨fun x => x.2, fun x => ⟨by have := h.at x; omega, x⟩⟩
theorem mine_asc (l : List Rw) : (mineI l).Pairwise (· < ·) := TI_asc.filter _
theorem mine_len (l : List Rw) : (mineI l).length ≤ 64 := by
  have := List.length_filter_le (fun t => atR l t) TI
  rw [TI_len] at this
  exact this
theorem flt_len (f : Int → Bool) (l : List Int) : (l.filter f).length ≤ l.length := List.length_filter_le _ _
theorem join_made {l : List Rw} (h : Dr l) : joinI l = madeI (mineI l) := by
  obtain ⟨h1, h2⟩ := join_ok h.v
  refine made_uniq h1 (mine_asc l) fun t => ?_
  rw [h2, mine_mem h]
theorem com_made {l m : List Rw} (h : Dr l) (h' : Dr m) : comI (joinI l) (joinI m) = madeI ((mineI l).filter fun t => decide (t ∈ mineI m)) := by
  obtain ⟨a1, a2⟩ := join_ok h.v
  obtain ⟨b1, b2⟩ := join_ok h'.v
  obtain ⟨c1, c2⟩ := com_ok a1 b1
  refine made_uniq c1 ((mine_asc l).filter _) fun t => ?_
  rw [c2, a2, b2, List.mem_filter, decide_eq_true_eq, mine_mem h, mine_mem h', Bool.and_eq_true]
theorem wi_made {l m : List Rw} (h : Dr l) (h' : Dr m) : wiI l m = madeI ((mineI l).filter fun t => !decide (t ∈ mineI m)) := by
  obtain ⟨c1, c2⟩ := wi_ok h.v h'.v
  refine made_uniq c1 ((mine_asc l).filter _) fun t => ?_
  rw [c2, List.mem_filter, Bool.not_eq_true', decide_eq_false_iff_not, mine_mem h, mine_mem h', Bool.and_eq_true, Bool.not_eq_true', Bool.not_eq_true]
theorem ei_made {l m : List Rw} (h : Dr l) (h' : Dr m) : eiI l m = madeI (TI.filter fun t => decide (t ∈ mineI l) != decide (t ∈ mineI m)) := by
  obtain ⟨c1, c2⟩ := ei_ok h.v h'.v
  refine made_uniq c1 (TI_asc.filter _) fun t => ?_
  have d1 : ∀ {l : List Rw}, Dr l → decide (t ∈ mineI l) = atR l t := fun h => by
    rw [Bool.eq_iff_iff, decide_eq_true_eq, mine_mem h]
  rw [c2, List.mem_filter, d1 h, d1 h', TI_mem]
  refine ⟨fun x => ⟨?_, x⟩, fun x => x.2⟩
  have a := h.at (t := t)
  have b := h'.at (t := t)
  cases e1 : atR l t <;> cases e2 : atR m t <;> rw [e1, e2] at x
  · cases x
  · have := b e2; omega
  · have := a e1; omega
  · cases x
theorem len_made {l : List Rw} (h : Dr l) : lenI (joinI l) = ((mineI l).length : Nat) := by
  rw [join_made h, made_len]
theorem gap_made {l : List Rw} (h : Dr l) {s e : Int} (hse : s < e) : gapI l s e = madeI ((rngI s e).filter fun t => !decide (t ∈ mineI l)) := by
  obtain ⟨c1, c2⟩ := wi_ok (l := [(s, e)]) (m := l) (fun p hp => by rw [List.mem_singleton.mp hp]; exact hse) h.v
  refine made_uniq c1 ((rngI_asc s e).filter _) fun t => ?_
  rw [show atR (gapI l s e) t = _ from c2 t, List.mem_filter, rngI_mem, Bool.not_eq_true', decide_eq_false_iff_not, mine_mem h, Bool.and_eq_true, Bool.not_eq_true', Bool.not_eq_true]
  have : atR [(s, e)] t = true ↔ s ≤ t ∧ t < e := by
    show (inR (s, e) t || false) = true ↔ _
    rw [Bool.or_false, inR_iff]
  rw [this]
theorem wid_made {l : List Rw} (h : Dr l) {a b : Int} (ha : -3 ≤ a ∧ a ≤ 3) (hb : -3 ≤ b ∧ b ≤ 3) : joinI (widR l a b) = madeI (TI.filter fun t => atR (widR l a b) t) := by
  obtain ⟨h1, h2⟩ := join_ok (wid_v l a b)
  refine made_uniq h1 (TI_asc.filter _) fun t => ?_
  rw [h2, List.mem_filter, TI_mem]
  refine ⟨fun x => ⟨?_, x⟩, fun x => x.2⟩
  obtain ⟨p, hp, h1, h2⟩ := atR_iff.mp x
  unfold widR at hp
  obtain ⟨q, hq, rfl⟩ := List.mem_map.mp hp
  have := h.b q (List.mem_filter.mp hq).1
  dsimp only at h1 h2
  omega
theorem cnt_TI {l : List Rw} (h : Dr l) {t : Int} (hc : 1 ≤ cntI l t) : t ∈ TI := by
  have := h.at (cnt_at.mp hc)
  rw [TI_mem]; omega
theorem ial_made {l : List Rw} (h : Dr l) {many : Int} (hm : 1 ≤ many) : ialI (hmR l) many = madeI (TI.filter fun t => decide (cntI l t ≥ many)) := by
  obtain ⟨h1, h2⟩ := ial_ok (hmR_ok l) hm
  refine made_uniq h1 (TI_asc.filter _) fun t => ?_
  rw [h2, List.mem_filter, decide_eq_true_eq]
  exact ⟨fun x => ⟨cnt_TI h (by omega), x⟩, fun x => x.2⟩
theorem foldl_max : ∀ (l : List Int) (n : Int), n ≤ l.foldl max n ∧ (∀ x ∈ l, x ≤ l.foldl max n) ∧ (l.foldl max n = n ∨ l.foldl max n ∈ l)
  | [], n => ⟨Int.le_refl _, (fun x h => by cases h), .inl rfl⟩
  | a :: l, n => by
    obtain ⟨h1, h2, h3⟩ := foldl_max l (max n a)
    rw [List.foldl_cons]
    refine ⟨by omega, fun x hx => ?_, ?_⟩
    · rcases List.mem_cons.mp hx with rfl | hx
      · omega
      · exact h2 x hx
    · rcases h3 with h3 | h3
      · rcases Int.le_total n a with c | c
        · right; rw [h3, show max n a = a by omega]; exact List.mem_cons_self
        · left; omega
      · exact .inr (List.mem_cons_of_mem _ h3)
theorem most_law {l : List Rw} (h : Dr l) : ∃ ns n, TI.map (cntI l) = n :: ns ∧ ns.foldl max n = mxI ((hmR l).map (·.2.2)) := by
  cases e : TI.map (cntI l) with
  | nil =>
    have := congrArg List.length e
    rw [List.length_map, TI_len] at this
    cases this
  | cons n ns =>
    refine ⟨ns, n, rfl, ?_⟩
    have H := hmR_ok l
    obtain ⟨f1, f2, f3⟩ := foldl_max ns n
    have all : ∀ t, cntI l t ≤ ns.foldl max n := fun t => by
      by_cases c : 1 ≤ cntI l t
      · have : cntI l t ∈ TI.map (cntI l) := List.mem_map.mpr ⟨t, cnt_TI h c, rfl⟩
        rw [e] at this
        rcases List.mem_cons.mp this with q | q
        · omega
        · exact f2 _ q
      · have : n ∈ TI.map (cntI l) := by rw [e]; exact List.mem_cons_self
        obtain ⟨u, _, hu⟩ := List.mem_map.mp this
        have : 0 ≤ cntI l u := Int.natCast_nonneg _
        omega
    have att : ∃ t, ns.foldl max n = cntI l t := by
      have : ns.foldl max n ∈ TI.map (cntI l) := by
        rw [e]
        rcases f3 with q | q
        · rw [q]; exact List.mem_cons_self
        · exact List.mem_cons_of_mem _ q
      obtain ⟨u, _, hu⟩ := List.mem_map.mp this
      exact ⟨u, hu.symm⟩
    obtain ⟨t, ht⟩ := att
    cases q : (hmR l).map (·.2.2) with
    | nil =>
      show _ = 0
      by_cases c : 1 ≤ cntI l t
      · obtain ⟨r, hr, _⟩ := hk_some H c
        have : r.2.2 ∈ (hmR l).map (·.2.2) := List.mem_map.mpr ⟨r, hr, rfl⟩
        rw [q] at this; cases this
      · have : 0 ≤ cntI l t := Int.natCast_nonneg _
        omega
    | cons m ms =>
      show _ = ms.foldl max m
      obtain ⟨g1, g2, g3⟩ := foldl_max ms m
      have mem : ∀ x, x ∈ (hmR l).map (·.2.2) → 1 ≤ x ∧ x ≤ ns.foldl max n := fun x hx => by
        obtain ⟨r, hr, rfl⟩ := List.mem_map.mp hx
        have a := H.row r hr
        have b := hk_cnt H hr (t := r.1) (inT_iff.mpr ⟨Int.le_refl _, a.1⟩)
        have := all r.1
        omega
      have le : ms.foldl max m ≤ ns.foldl max n := by
        have : ms.foldl max m ∈ (hmR l).map (·.2.2) := by
          rw [q]
          rcases g3 with z | z
          · rw [z]; exact List.mem_cons_self
          · exact List.mem_cons_of_mem _ z
        exact (mem _ this).2
      have ge : ns.foldl max n ≤ ms.foldl max m := by
        have m1 := (mem m (by rw [q]; exact List.mem_cons_self)).1
        by_cases c : 1 ≤ cntI l t
        · obtain ⟨r, hr, _, hx⟩ := hk_some H c
          have : r.2.2 ∈ (hmR l).map (·.2.2) := List.mem_map.mpr ⟨r, hr, rfl⟩
          rw [q] at this
          rcases List.mem_cons.mp this with z | z
          · omega
          · have := g2 _ z; omega
        · omega
      omega
/-- the first that fits, by the law -/
def ableI (l : List Rw) (long step start : Int) : List Int := (rngI start 45).filter fun w => decide (w % step = 0) && ((rngI 0 long).filter fun k => !decide (w + k ∈ mineI l)).isEmpty
theorem able_ok {l : List Rw} (h : Dr l) {long step : Int} (w : Int) : (decide (w % step = 0) && ((rngI 0 long).filter fun k => !decide (w + k ∈ mineI l)).isEmpty) = true ↔ w % step = 0 ∧ ∀ k, 0 ≤ k → k < long → atR (joinI l) (w + k) = true := by
  rw [Bool.and_eq_true, decide_eq_true_eq, List.isEmpty_iff, List.filter_eq_nil_iff]
  constructor
  · rintro ⟨h1, h2⟩
    refine ⟨h1, fun k k1 k2 => ?_⟩
    have := h2 k (rngI_mem.mpr ⟨k1, k2⟩)
    rw [Bool.not_eq_true', decide_eq_false_iff_not, Classical.not_not, mine_mem h, ← (join_ok h.v).2] at this
    exact this
  · rintro ⟨h1, h2⟩
    refine ⟨h1, fun k hk => ?_⟩
    obtain ⟨k1, k2⟩ := rngI_mem.mp hk
    have := h2 k k1 k2
    rw [(join_ok h.v).2, ← mine_mem h] at this
    rw [Bool.not_eq_true', decide_eq_false_iff_not, Classical.not_not]
    exact this
theorem fit_law {l : List Rw} (h : Dr l) {long step start : Int} (h1 : 1 ≤ long) (h2 : 1 ≤ step) : (ableI l long step start).head? = fitI long step start (joinI l) := by
  obtain ⟨f1, f2⟩ := fit_ok (long := long) (step := step) (start := start) h1 h2 (join_ok h.v).1
  unfold ableI
  cases e : fitI long step start (joinI l) with
  | none =>
    have f2 := f2 e
    cases q : (rngI start 45).filter fun w => decide (w % step = 0) && ((rngI 0 long).filter fun k => !decide (w + k ∈ mineI l)).isEmpty with
    | nil => rfl
    | cons w t =>
      have : w ∈ (rngI start 45).filter fun w => decide (w % step = 0) && ((rngI 0 long).filter fun k => !decide (w + k ∈ mineI l)).isEmpty := by rw [q]; exact List.mem_cons_self
      obtain ⟨w1, w2⟩ := List.mem_filter.mp this
      exact absurd ⟨(rngI_mem.mp w1).1, (able_ok h w).mp w2⟩ (f2 w)
  | some x =>
    obtain ⟨g1, g2⟩ := f1 x e
    refine head_least (rngI_asc start 45) (rngI_mem.mpr ⟨g1.1, ?_⟩) ((able_ok h x).mpr g1.2) fun w hw hp => g2 w ⟨(rngI_mem.mp hw).1, (able_ok h w).mp hp⟩
    have := g1.2.2 0 (by omega) (by omega)
    rw [(join_ok h.v).2] at this
    have := h.at this
    omega
end K04

namespace K04
open PySem G
section
variable {x0 x1 x2 x3 x4 x5 x6 x7 x8 x9 x10 x11 x12 x13 x14 x15 x16 x17 x18 x19 x20 x21 x22 x23 x24 x25 x26 x27 x28 x29 : Option D} {one oth : List Rw} {n : Nat} {st : Store}
theorem zip_self {α β : Type} (f : α → β) : ∀ l : List α, l.zip (l.map f) = l.map fun t => (t, f t)
  | [] => rfl
  | a :: l => by rw [List.map_cons, List.zip_cons_cons, zip_self f l]; rfl
theorem listR2_run {f h : DE} {env : G.Env} {i j : Int} {ds : List D} (h1 : f env st = .ok (.int i) st) (h2 : h env st = .ok (.int j) st) (h3 : rng3 (.int i) (.int j) (.int 1) st = .ok ds st) : dListR2 false f h env st = .ok (.lst ds) st := by
  unfold dListR2
  rw [h1, R.bind_ok, h2, R.bind_ok, h3, R.bind_ok]
  rfl
theorem k2  : p_law_2 [x0, some (.ref n), some (.lst (one.map pairT)), some (.lst (oth.map pairT)), x4, x5, x6, x7, x8, x9, x10, x11, x12, x13, x14, x15, x16, x17, x18, x19, x20, x21, x22, x23, x24, x25, x26, x27, x28, x29] st = .nx [x0, some (.ref n), some (.lst (one.map pairT)), some (.lst (oth.map pairT)), some (.lst (TI.map .int)), x5, x6, x7, x8, x9, x10, x11, x12, x13, x14, x15, x16, x17, x18, x19, x20, x21, x22, x23, x24, x25, x26, x27, x28, x29] st := by
  unfold p_law_2
  exact asg_run (listR2_run rfl rfl (times_run st)) rfl
theorem k3 (ho : Dr one) (ht : Dr oth) : p_law_3 [x0, some (.ref n), some (.lst (one.map pairT)), some (.lst (oth.map pairT)), some (.lst (TI.map .int)), x5, x6, x7, x8, x9, x10, x11, x12, x13, x14, x15, x16, x17, x18, x19, x20, x21, x22, x23, x24, x25, x26, x27, x28, x29] st = .nx [x0, some (.ref n), some (.lst (one.map pairT)), some (.lst (oth.map pairT)), some (.lst (TI.map .int)), some (.lst ((mineI one).map .int)), some (.lst ((mineI oth).map .int)), x7, x8, x9, x10, x11, x12, x13, x14, x15, x16, x17, x18, x19, x20, x21, x22, x23, x24, x25, x26, x27, x28, x29] st := by
  unfold p_law_3
  have q1 := lcF_run (fi := dIt (dVar 4)) (gt := dgName 7) (ft := dTru (dCall f__law_at (dCons (dVar 2) (dCons (dVar 7) (dNil))))) (fe := y_law_1) (vs := [7]) (env := [x0, some (.ref n), some (.lst (one.map pairT)), some (.lst (oth.map pairT)), some (.lst (TI.map .int)), x5, x6, x7, x8, x9, x10, x11, x12, x13, x14, x15, x16, x17, x18, x19, x20, x21, x22, x23, x24, x25, x26, x27, x28, x29]) (st := st) D.int D.int (fun t => [x0, some (.ref n), some (.lst (one.map pairT)), some (.lst (oth.map pairT)), some (.lst (TI.map .int)), x5, x6, some (.int (t)), x8, x9, x10, x11, x12, x13, x14, x15, x16, x17, x18, x19, x20, x21, x22, x23, x24, x25, x26, x27, x28, x29]) (fun t => atR one t) TI (it_lst rfl) (by rw [TI_len]; omega) fun t _ => ⟨rfl, tru_run (call_run (cons2 rfl rfl) (e_lat (.inl rfl) (by have := ho.len; omega) t st)) rfl, fun _ => rfl⟩
  have q2 := lcF_run (fi := dIt (dVar 4)) (gt := dgName 7) (ft := dTru (dCall f__law_at (dCons (dVar 3) (dCons (dVar 7) (dNil))))) (fe := y_law_2) (vs := [7]) (env := [x0, some (.ref n), some (.lst (one.map pairT)), some (.lst (oth.map pairT)), some (.lst (TI.map .int)), x5, x6, x7, x8, x9, x10, x11, x12, x13, x14, x15, x16, x17, x18, x19, x20, x21, x22, x23, x24, x25, x26, x27, x28, x29]) (st := st) D.int D.int (fun t => [x0, some (.ref n), some (.lst (one.map pairT)), some (.lst (oth.map pairT)), some (.lst (TI.map .int)), x5, x6, some (.int (t)), x8, x9, x10, x11, x12, x13, x14, x15, x16, x17, x18, x19, x20, x21, x22, x23, x24, x25, x26, x27, x28, x29]) (fun t => atR oth t) TI (it_lst rfl) (by rw [TI_len]; omega) fun t _ => ⟨rfl, tru_run (call_run (cons2 rfl rfl) (e_lat (.inl rfl) (by have := ht.len; omega) t st)) rfl, fun _ => rfl⟩
  exact asg_run (tup2 q1 q2) rfl
theorem k4 (ho : Dr one) (ht : Dr oth) (hst : stCl st.length st = true) : p_law_4 [x0, some (.ref n), some (.lst (one.map pairT)), some (.lst (oth.map pairT)), some (.lst (TI.map .int)), some (.lst ((mineI one).map .int)), some (.lst ((mineI oth).map .int)), x7, x8, x9, x10, x11, x12, x13, x14, x15, x16, x17, x18, x19, x20, x21, x22, x23, x24, x25, x26, x27, x28, x29] st = .nx [x0, some (.ref n), some (.lst (one.map pairT)), some (.lst (oth.map pairT)), some (.lst (TI.map .int)), some (.lst ((mineI one).map .int)), some (.lst ((mineI oth).map .int)), x7, x8, x9, x10, x11, x12, x13, x14, x15, x16, x17, x18, x19, x20, x21, x22, x23, x24, x25, x26, x27, x28, x29] st := by
  unfold p_law_4
  have j := e_joined (d := .lst (one.map pairT)) (.inl rfl) (by have := ho.len; omega) ho.v hst
  rw [join_made ho] at j
  exact pass (list_run (call_run (cons1 rfl) j)) (call_run (cons1 rfl) (e_made (by have := mine_len one; omega) (mine_asc one) st)) (ne_rows _ st)
theorem k5 (ho : Dr one) (ht : Dr oth) (hst : stCl st.length st = true) : p_law_5 [x0, some (.ref n), some (.lst (one.map pairT)), some (.lst (oth.map pairT)), some (.lst (TI.map .int)), some (.lst ((mineI one).map .int)), some (.lst ((mineI oth).map .int)), x7, x8, x9, x10, x11, x12, x13, x14, x15, x16, x17, x18, x19, x20, x21, x22, x23, x24, x25, x26, x27, x28, x29] st = .nx [x0, some (.ref n), some (.lst (one.map pairT)), some (.lst (oth.map pairT)), some (.lst (TI.map .int)), some (.lst ((mineI one).map .int)), some (.lst ((mineI oth).map .int)), x7, x8, x9, x10, x11, x12, x13, x14, x15, x16, x17, x18, x19, x20, x21, x22, x23, x24, x25, x26, x27, x28, x29] st := by
  unfold p_law_5
  have q := lcF_run (fi := dIt (dVar 5)) (gt := dgName 7) (ft := dB (dBin (aIn false) (dVar 7) (dVar 6))) (fe := y_law_3) (vs := [7]) (env := [x0, some (.ref n), some (.lst (one.map pairT)), some (.lst (oth.map pairT)), some (.lst (TI.map .int)), some (.lst ((mineI one).map .int)), some (.lst ((mineI oth).map .int)), x7, x8, x9, x10, x11, x12, x13, x14, x15, x16, x17, x18, x19, x20, x21, x22, x23, x24, x25, x26, x27, x28, x29]) (st := st) D.int D.int (fun t => [x0, some (.ref n), some (.lst (one.map pairT)), some (.lst (oth.map pairT)), some (.lst (TI.map .int)), some (.lst ((mineI one).map .int)), some (.lst ((mineI oth).map .int)), some (.int (t)), x8, x9, x10, x11, x12, x13, x14, x15, x16, x17, x18, x19, x20, x21, x22, x23, x24, x25, x26, x27, x28, x29]) (fun t => decide (t ∈ mineI oth)) (mineI one) (it_lst rfl) (by have := mine_len one; omega) fun t _ => ⟨rfl, b_run (bin_run rfl rfl (in_run false t (mineI oth) st)), fun _ => rfl⟩
  have j := e_common (d := .lst (one.map pairT)) (e := .lst (oth.map pairT)) (.inl rfl) (.inl rfl) (by have := ho.len; omega) (by have := ht.len; omega) ho.v ht.v hst
  rw [com_made ho ht] at j
  exact pass (list_run (call_run (cons2 rfl rfl) j)) (call_run (cons1 q) (e_made (by have := mine_len one; have := flt_len (fun t => decide (t ∈ mineI oth)) (mineI one); omega) ((mine_asc one).filter _) st)) (ne_rows _ st)
theorem k6 (ho : Dr one) (ht : Dr oth) (hst : stCl st.length st = true) : p_law_6 [x0, some (.ref n), some (.lst (one.map pairT)), some (.lst (oth.map pairT)), some (.lst (TI.map .int)), some (.lst ((mineI one).map .int)), some (.lst ((mineI oth).map .int)), x7, x8, x9, x10, x11, x12, x13, x14, x15, x16, x17, x18, x19, x20, x21, x22, x23, x24, x25, x26, x27, x28, x29] st = .nx [x0, some (.ref n), some (.lst (one.map pairT)), some (.lst (oth.map pairT)), some (.lst (TI.map .int)), some (.lst ((mineI one).map .int)), some (.lst ((mineI oth).map .int)), x7, x8, x9, x10, x11, x12, x13, x14, x15, x16, x17, x18, x19, x20, x21, x22, x23, x24, x25, x26, x27, x28, x29] st := by
  unfold p_law_6
  have q := lcF_run (fi := dIt (dVar 5)) (gt := dgName 7) (ft := dB (dBin (aIn true) (dVar 7) (dVar 6))) (fe := y_law_4) (vs := [7]) (env := [x0, some (.ref n), some (.lst (one.map pairT)), some (.lst (oth.map pairT)), some (.lst (TI.map .int)), some (.lst ((mineI one).map .int)), some (.lst ((mineI oth).map .int)), x7, x8, x9, x10, x11, x12, x13, x14, x15, x16, x17, x18, x19, x20, x21, x22, x23, x24, x25, x26, x27, x28, x29]) (st := st) D.int D.int (fun t => [x0, some (.ref n), some (.lst (one.map pairT)), some (.lst (oth.map pairT)), some (.lst (TI.map .int)), some (.lst ((mineI one).map .int)), some (.lst ((mineI oth).map .int)), some (.int (t)), x8, x9, x10, x11, x12, x13, x14, x15, x16, x17, x18, x19, x20, x21, x22, x23, x24, x25, x26, x27, x28, x29]) (fun t => !decide (t ∈ mineI oth)) (mineI one) (it_lst rfl) (by have := mine_len one; omega) fun t _ => ⟨rfl, b_run (bin_run rfl rfl (in_run true t (mineI oth) st)), fun _ => rfl⟩
  have j := e_without (d := .lst (one.map pairT)) (e := .lst (oth.map pairT)) (.inl rfl) (.inl rfl) (by have := ho.len; omega) (by have := ht.len; omega) ho.v ht.v hst
  rw [wi_made ho ht] at j
  exact pass (list_run (call_run (cons2 rfl rfl) j)) (call_run (cons1 q) (e_made (by have := mine_len one; have := flt_len (fun t => !decide (t ∈ mineI oth)) (mineI one); omega) ((mine_asc one).filter _) st)) (ne_rows _ st)
theorem k7 (ho : Dr one) (ht : Dr oth) (hst : stCl st.length st = true) : p_law_7 [x0, some (.ref n), some (.lst (one.map pairT)), some (.lst (oth.map pairT)), some (.lst (TI.map .int)), some (.lst ((mineI one).map .int)), some (.lst ((mineI oth).map .int)), x7, x8, x9, x10, x11, x12, x13, x14, x15, x16, x17, x18, x19, x20, x21, x22, x23, x24, x25, x26, x27, x28, x29] st = .nx [x0, some (.ref n), some (.lst (one.map pairT)), some (.lst (oth.map pairT)), some (.lst (TI.map .int)), some (.lst ((mineI one).map .int)), some (.lst ((mineI oth).map .int)), x7, x8, x9, x10, x11, x12, x13, x14, x15, x16, x17, x18, x19, x20, x21, x22, x23, x24, x25, x26, x27, x28, x29] st := by
  unfold p_law_7
  have q := lcF_run (fi := dIt (dVar 4)) (gt := dgName 7) (ft := dB (dBin aNe (dBin (aIn false) (dVar 7) (dVar 5)) (dBin (aIn false) (dVar 7) (dVar 6)))) (fe := y_law_5) (vs := [7]) (env := [x0, some (.ref n), some (.lst (one.map pairT)), some (.lst (oth.map pairT)), some (.lst (TI.map .int)), some (.lst ((mineI one).map .int)), some (.lst ((mineI oth).map .int)), x7, x8, x9, x10, x11, x12, x13, x14, x15, x16, x17, x18, x19, x20, x21, x22, x23, x24, x25, x26, x27, x28, x29]) (st := st) D.int D.int (fun t => [x0, some (.ref n), some (.lst (one.map pairT)), some (.lst (oth.map pairT)), some (.lst (TI.map .int)), some (.lst ((mineI one).map .int)), some (.lst ((mineI oth).map .int)), some (.int (t)), x8, x9, x10, x11, x12, x13, x14, x15, x16, x17, x18, x19, x20, x21, x22, x23, x24, x25, x26, x27, x28, x29]) (fun t => decide (t ∈ mineI one) != decide (t ∈ mineI oth)) TI (it_lst rfl) (by rw [TI_len]; omega) fun t _ => ⟨rfl, b_run (bin_run (bin_run rfl rfl (in_run false t (mineI one) st)) (bin_run rfl rfl (in_run false t (mineI oth) st)) (ne_bl _ _ st)), fun _ => rfl⟩
  have j := e_either (d := .lst (one.map pairT)) (e := .lst (oth.map pairT)) (.inl rfl) (.inl rfl) (by have := ho.len; omega) (by have := ht.len; omega) ho.v ht.v hst
  rw [ei_made ho ht] at j
  exact pass (list_run (call_run (cons2 rfl rfl) j)) (call_run (cons1 q) (e_made (by have := flt_len (fun t => decide (t ∈ mineI one) != decide (t ∈ mineI oth)) TI; rw [TI_len] at this; omega) (TI_asc.filter _) st)) (ne_rows _ st)
theorem k8 (ho : Dr one) (ht : Dr oth) (hst : stCl st.length st = true) : p_law_8 [x0, some (.ref n), some (.lst (one.map pairT)), some (.lst (oth.map pairT)), some (.lst (TI.map .int)), some (.lst ((mineI one).map .int)), some (.lst ((mineI oth).map .int)), x7, x8, x9, x10, x11, x12, x13, x14, x15, x16, x17, x18, x19, x20, x21, x22, x23, x24, x25, x26, x27, x28, x29] st = .nx [x0, some (.ref n), some (.lst (one.map pairT)), some (.lst (oth.map pairT)), some (.lst (TI.map .int)), some (.lst ((mineI one).map .int)), some (.lst ((mineI oth).map .int)), x7, x8, x9, x10, x11, x12, x13, x14, x15, x16, x17, x18, x19, x20, x21, x22, x23, x24, x25, x26, x27, x28, x29] st := by
  unfold p_law_8
  have j := e_length (d := .lst (one.map pairT)) (.inl rfl) (by have := ho.len; omega) ho.v (fun p hp => by have := ho.b p hp; omega) hst
  rw [len_made ho] at j
  exact pass (call_run (cons1 rfl) j) (call_run (cons1 rfl) (len_run _ _ st)) (ne_i _ st)
theorem k11 (ho : Dr one) (ht : Dr oth) {s e : Int} (h1 : 0 ≤ s ∧ s < 20) (h2 : s < e ∧ e < 40) (hst : stCl st.length st = true) : p_law_11 [x0, some (.ref n), some (.lst (one.map pairT)), some (.lst (oth.map pairT)), some (.lst (TI.map .int)), some (.lst ((mineI one).map .int)), some (.lst ((mineI oth).map .int)), x7, some (.int (s)), some (.int (e)), x10, x11, x12, x13, x14, x15, x16, x17, x18, x19, x20, x21, x22, x23, x24, x25, x26, x27, x28, x29] st = .nx [x0, some (.ref n), some (.lst (one.map pairT)), some (.lst (oth.map pairT)), some (.lst (TI.map .int)), some (.lst ((mineI one).map .int)), some (.lst ((mineI oth).map .int)), x7, some (.int (s)), some (.int (e)), x10, x11, x12, x13, x14, x15, x16, x17, x18, x19, x20, x21, x22, x23, x24, x25, x26, x27, x28, x29] st := by
  unfold p_law_11
  have q := lcF_run (fi := dRng2 (dVar 8) (dVar 9)) (gt := dgName 7) (ft := dB (dBin (aIn true) (dVar 7) (dVar 5))) (fe := y_law_6) (vs := [7]) (env := [x0, some (.ref n), some (.lst (one.map pairT)), some (.lst (oth.map pairT)), some (.lst (TI.map .int)), some (.lst ((mineI one).map .int)), some (.lst ((mineI oth).map .int)), x7, some (.int (s)), some (.int (e)), x10, x11, x12, x13, x14, x15, x16, x17, x18, x19, x20, x21, x22, x23, x24, x25, x26, x27, x28, x29]) (st := st) D.int D.int (fun t => [x0, some (.ref n), some (.lst (one.map pairT)), some (.lst (oth.map pairT)), some (.lst (TI.map .int)), some (.lst ((mineI one).map .int)), some (.lst ((mineI oth).map .int)), some (.int (t)), some (.int (s)), some (.int (e)), x10, x11, x12, x13, x14, x15, x16, x17, x18, x19, x20, x21, x22, x23, x24, x25, x26, x27, x28, x29]) (fun t => !decide (t ∈ mineI one)) (rngI s e) (rng2_run rfl rfl (by omega) (by omega)) (by rw [rngI_len]; omega) fun t _ => ⟨rfl, b_run (bin_run rfl rfl (in_run true t (mineI one) st)), fun _ => rfl⟩
  have j := e_gaps (d := .lst (one.map pairT)) (.inl rfl) (by have := ho.len; omega) ho.v h2.1 hst
  rw [gap_made ho h2.1] at j
  exact pass (list_run (call_run (cons_run rfl (cons2 rfl rfl)) j)) (call_run (cons1 q) (e_made (by have := flt_len (fun t => !decide (t ∈ mineI one)) (rngI s e); rw [rngI_len] at this; omega) ((rngI_asc s e).filter _) st)) (ne_rows _ st)
theorem k12 (ho : Dr one) (ht : Dr oth) : p_law_12 [x0, some (.ref n), some (.lst (one.map pairT)), some (.lst (oth.map pairT)), some (.lst (TI.map .int)), some (.lst ((mineI one).map .int)), some (.lst ((mineI oth).map .int)), x7, x8, x9, x10, x11, x12, x13, x14, x15, x16, x17, x18, x19, x20, x21, x22, x23, x24, x25, x26, x27, x28, x29] st = .nx [x0, some (.ref n), some (.lst (one.map pairT)), some (.lst (oth.map pairT)), some (.lst (TI.map .int)), some (.lst ((mineI one).map .int)), some (.lst ((mineI oth).map .int)), x7, x8, x9, x10, x11, x12, x13, x14, x15, x16, x17, x18, x19, x20, x21, x22, x23, x24, x25, x26, x27, x28, x29] st := by
  unfold p_law_12
  have q1 := lcM_run (fi := dIt (dVar 4)) (gt := dgName 7) (fe := y_law_7) (vs := [7]) (env := [x0, some (.ref n), some (.lst (one.map pairT)), some (.lst (oth.map pairT)), some (.lst (TI.map .int)), some (.lst ((mineI one).map .int)), some (.lst ((mineI oth).map .int)), x7, x8, x9, x10, x11, x12, x13, x14, x15, x16, x17, x18, x19, x20, x21, x22, x23, x24, x25, x26, x27, x28, x29]) (st := st) D.int (fun t => D.bl (atR one t)) (fun t => [x0, some (.ref n), some (.lst (one.map pairT)), some (.lst (oth.map pairT)), some (.lst (TI.map .int)), some (.lst ((mineI one).map .int)), some (.lst ((mineI oth).map .int)), some (.int (t)), x8, x9, x10, x11, x12, x13, x14, x15, x16, x17, x18, x19, x20, x21, x22, x23, x24, x25, x26, x27, x28, x29]) TI (it_lst rfl) (by rw [TI_len]; omega) fun t _ => ⟨rfl, call_run (cons2 rfl rfl) (e_holds (.inl rfl) (by have := ho.len; omega) ho.v t st)⟩
  have q2 := lcM_run (fi := dIt (dVar 4)) (gt := dgName 7) (fe := y_law_8) (vs := [7]) (env := [x0, some (.ref n), some (.lst (one.map pairT)), some (.lst (oth.map pairT)), some (.lst (TI.map .int)), some (.lst ((mineI one).map .int)), some (.lst ((mineI oth).map .int)), x7, x8, x9, x10, x11, x12, x13, x14, x15, x16, x17, x18, x19, x20, x21, x22, x23, x24, x25, x26, x27, x28, x29]) (st := st) D.int (fun t => D.bl (atR one t)) (fun t => [x0, some (.ref n), some (.lst (one.map pairT)), some (.lst (oth.map pairT)), some (.lst (TI.map .int)), some (.lst ((mineI one).map .int)), some (.lst ((mineI oth).map .int)), some (.int (t)), x8, x9, x10, x11, x12, x13, x14, x15, x16, x17, x18, x19, x20, x21, x22, x23, x24, x25, x26, x27, x28, x29]) TI (it_lst rfl) (by rw [TI_len]; omega) fun t _ => ⟨rfl, (bin_run rfl rfl (in_run false t (mineI one) st)).trans (by
    rw [if_neg Bool.false_ne_true]
    congr 2
    rw [Bool.eq_iff_iff, decide_eq_true_eq, mine_mem ho])⟩
  have e : TI.map (fun t => D.bl (atR one t)) = (TI.map fun t => atR one t).map D.bl := by rw [List.map_map]; rfl
  rw [e] at q1 q2
  exact pass q1 q2 (ne_bls _ st)
theorem dep_str (x : Str) (b : Bool) (h : x.cps.all (· < 0x110000) = true) (st : Store) : aNe (.tup [.str x, .bl b]) (.tup [.str x, .bl b]) st = .ok (.bl false) st :=
  ne_self rfl (by show (D.dat (.str x) && (true && true)) = true; rw [show D.dat (.str x) = true from h]; rfl) (by show max 0 (max 0 0) + 1 ≤ 64; omega)
theorem words_ok {p q : Rw} {w : String} (h : plI p q = some w) : (w : Str).cps.all (· < 0x110000) = true := by
  unfold plI at h
  have k : ∀ w' : String, w' ∈ ["same", "ahead", "up to", "begins", "ends", "within", "over"] → (w' : Str).cps.all (· < 0x110000) = true := by decide +kernel
  refine k w ?_
  repeat' split at h
  all_goals first
    | (cases h; simp; done)
    | (exfalso; cases h)
theorem lies_ne {p q : Rw} (hp : p.1 < p.2) (hq : q.1 < q.2) (st : Store) : aNe (liesD p q) (liesD p q) st = .ok (.bl false) st := by
  unfold liesD
  cases h : plI p q with
  | some w => exact dep_str _ _ (words_ok h) st
  | none =>
    obtain ⟨w, hw⟩ := ll_some hp hq h
    rw [hw]
    exact dep_str _ _ (words_ok hw) st
theorem lies_turn {p q : Rw} (st : Store) : aIx (liesD p q) (.int 1) st = .ok (.bl (plI p q).isNone) st := by
  unfold liesD
  cases plI p q <;> rfl
theorem lies_body {p q : Rw} (hp : p.1 < p.2) (hq : q.1 < q.2) : l_law_1 [x0, some (.ref n), some (.lst (one.map pairT)), some (.lst (oth.map pairT)), some (.lst (TI.map .int)), some (.lst ((mineI one).map .int)), some (.lst ((mineI oth).map .int)), x7, x8, x9, some (pairT p), some (pairT q), x12, x13, x14, x15, x16, x17, x18, x19, x20, x21, x22, x23, x24, x25, x26, x27, x28, x29] st = .nx [x0, some (.ref n), some (.lst (one.map pairT)), some (.lst (oth.map pairT)), some (.lst (TI.map .int)), some (.lst ((mineI one).map .int)), some (.lst ((mineI oth).map .int)), x7, x8, x9, some (pairT p), some (pairT q), x12, x13, x14, x15, x16, x17, x18, x19, x20, x21, x22, x23, x24, x25, x26, x27, x28, x29] st := by
  unfold l_law_1
  refine seq_run (pass (call_run (cons2 rfl rfl) (e_how hp hq st)) (call_run (cons2 rfl rfl) (e_lies hp hq st)) (lies_ne hp hq st)) ?_
  refine pass (v := .bl (plI p q).isNone) (bin_run (call_run (cons2 rfl rfl) (e_plain p q st)) rfl ?_) (bin_run (call_run (cons2 rfl rfl) (e_lies hp hq st)) rfl (lies_turn st)) (by rw [ne_bl]; simp)
  cases plI p q <;> rfl
theorem lies_in {p : Rw} (hp : p.1 < p.2) (ht : Dr oth) : ∃ x, l_law_2 [x0, some (.ref n), some (.lst (one.map pairT)), some (.lst (oth.map pairT)), some (.lst (TI.map .int)), some (.lst ((mineI one).map .int)), some (.lst ((mineI oth).map .int)), x7, x8, x9, some (pairT p), x11, x12, x13, x14, x15, x16, x17, x18, x19, x20, x21, x22, x23, x24, x25, x26, x27, x28, x29] st = .nx [x0, some (.ref n), some (.lst (one.map pairT)), some (.lst (oth.map pairT)), some (.lst (TI.map .int)), some (.lst ((mineI one).map .int)), some (.lst ((mineI oth).map .int)), x7, x8, x9, some (pairT p), x, x12, x13, x14, x15, x16, x17, x18, x19, x20, x21, x22, x23, x24, x25, x26, x27, x28, x29] st := by
  obtain ⟨x, h, _⟩ := for_fold (β := Unit) (ε := Option D) (gt := dgName 11) (fb := l_law_1) pairT (fun _ x11 => [x0, some (.ref n), some (.lst (one.map pairT)), some (.lst (oth.map pairT)), some (.lst (TI.map .int)), some (.lst ((mineI one).map .int)), some (.lst ((mineI oth).map .int)), x7, x8, x9, some (pairT p), x11, x12, x13, x14, x15, x16, x17, x18, x19, x20, x21, x22, x23, x24, x25, x26, x27, x28, x29]) (fun _ => st) (fun s _ => s) (fun _ _ => True) oth (fun q hq s e n _ => ⟨_, some (pairT q), rfl, .inl (lies_body hp (ht.v q hq)), trivial⟩) () x11 0 trivial
  exact ⟨x, for_run (it_lst rfl) h⟩
theorem k13 (ho : Dr one) (ht : Dr oth) : ∃ x y, p_law_13 [x0, some (.ref n), some (.lst (one.map pairT)), some (.lst (oth.map pairT)), some (.lst (TI.map .int)), some (.lst ((mineI one).map .int)), some (.lst ((mineI oth).map .int)), x7, x8, x9, x10, x11, x12, x13, x14, x15, x16, x17, x18, x19, x20, x21, x22, x23, x24, x25, x26, x27, x28, x29] st = .nx [x0, some (.ref n), some (.lst (one.map pairT)), some (.lst (oth.map pairT)), some (.lst (TI.map .int)), some (.lst ((mineI one).map .int)), some (.lst ((mineI oth).map .int)), x7, x8, x9, x, y, x12, x13, x14, x15, x16, x17, x18, x19, x20, x21, x22, x23, x24, x25, x26, x27, x28, x29] st := by
  obtain ⟨e, h, _⟩ := for_fold (β := Unit) (ε := Option D × Option D) (gt := dgName 10) (fb := l_law_2) pairT (fun _ e => [x0, some (.ref n), some (.lst (one.map pairT)), some (.lst (oth.map pairT)), some (.lst (TI.map .int)), some (.lst ((mineI one).map .int)), some (.lst ((mineI oth).map .int)), x7, x8, x9, e.1, e.2, x12, x13, x14, x15, x16, x17, x18, x19, x20, x21, x22, x23, x24, x25, x26, x27, x28, x29]) (fun _ => st) (fun s _ => s) (fun _ _ => True) one (fun p hp s e n _ => by
    obtain ⟨x, hx⟩ := lies_in (p := p) (ho.v p hp) ht
    exact ⟨_, (some (pairT p), x), rfl, .inl hx, trivial⟩) () (x10, x11) 0 trivial
  exact ⟨e.1, e.2, for_run (it_lst rfl) h⟩
theorem k14 (ho : Dr one) (ht : Dr oth) : p_law_14 [x0, some (.ref n), some (.lst (one.map pairT)), some (.lst (oth.map pairT)), some (.lst (TI.map .int)), some (.lst ((mineI one).map .int)), some (.lst ((mineI oth).map .int)), x7, x8, x9, x10, x11, x12, x13, x14, x15, x16, x17, x18, x19, x20, x21, x22, x23, x24, x25, x26, x27, x28, x29] st = .nx [x0, some (.ref n), some (.lst (one.map pairT)), some (.lst (oth.map pairT)), some (.lst (TI.map .int)), some (.lst ((mineI one).map .int)), some (.lst ((mineI oth).map .int)), x7, x8, x9, x10, x11, some (.lst ((TI.map (cntI one)).map .int)), x13, x14, x15, x16, x17, x18, x19, x20, x21, x22, x23, x24, x25, x26, x27, x28, x29] st := by
  unfold p_law_14
  have q := lcM_run (fi := dIt (dVar 4)) (gt := dgName 7) (fe := y_law_10) (vs := [7]) (env := [x0, some (.ref n), some (.lst (one.map pairT)), some (.lst (oth.map pairT)), some (.lst (TI.map .int)), some (.lst ((mineI one).map .int)), some (.lst ((mineI oth).map .int)), x7, x8, x9, x10, x11, x12, x13, x14, x15, x16, x17, x18, x19, x20, x21, x22, x23, x24, x25, x26, x27, x28, x29]) (st := st) D.int (fun t => D.int (cntI one t)) (fun t => [x0, some (.ref n), some (.lst (one.map pairT)), some (.lst (oth.map pairT)), some (.lst (TI.map .int)), some (.lst ((mineI one).map .int)), some (.lst ((mineI oth).map .int)), some (.int (t)), x8, x9, x10, x11, x12, x13, x14, x15, x16, x17, x18, x19, x20, x21, x22, x23, x24, x25, x26, x27, x28, x29]) TI (it_lst rfl) (by rw [TI_len]; omega) fun t _ => ⟨rfl, by
    unfold y_law_10
    refine call_run (cons1 (lcF_run pairT (fun _ => D.int 1) (fun p => [x0, some (.ref n), some (.lst (one.map pairT)), some (.lst (oth.map pairT)), some (.lst (TI.map .int)), some (.lst ((mineI one).map .int)), some (.lst ((mineI oth).map .int)), some (.int (t)), x8, x9, x10, x11, x12, some (.int (p.1)), some (.int (p.2)), x15, x16, x17, x18, x19, x20, x21, x22, x23, x24, x25, x26, x27, x28, x29]) (fun p => inR p t) one (it_lst rfl) (by have := ho.len; omega) fun p _ => ⟨rfl, b_run (chain_run rfl rfl rfl (fun _ => rfl) (fun _ => rfl)), fun _ => rfl⟩)) ?_
    exact len_run _ _ st⟩
  have e : TI.map (fun t => D.int (cntI one t)) = (TI.map (cntI one)).map D.int := by rw [List.map_map]; rfl
  rw [e] at q
  exact asg_run q rfl
theorem k16 (ho : Dr one) (ht : Dr oth) : p_law_16 [x0, some (.ref n), some (.lst (one.map pairT)), some (.lst (oth.map pairT)), some (.lst (TI.map .int)), some (.lst ((mineI one).map .int)), some (.lst ((mineI oth).map .int)), x7, x8, x9, x10, x11, some (.lst ((TI.map (cntI one)).map .int)), x13, x14, some (.tup ((hmR one).map triT)), some (.int (many)), x17, x18, x19, x20, x21, x22, x23, x24, x25, x26, x27, x28, x29] st = .nx [x0, some (.ref n), some (.lst (one.map pairT)), some (.lst (oth.map pairT)), some (.lst (TI.map .int)), some (.lst ((mineI one).map .int)), some (.lst ((mineI oth).map .int)), x7, x8, x9, x10, x11, some (.lst ((TI.map (cntI one)).map .int)), x13, x14, some (.tup ((hmR one).map triT)), some (.int (many)), x17, x18, x19, x20, x21, x22, x23, x24, x25, x26, x27, x28, x29] st := by
  unfold p_law_16
  have q := lcM_run (fi := dIt (dVar 4)) (gt := dgName 7) (fe := y_law_12) (vs := [7]) (env := [x0, some (.ref n), some (.lst (one.map pairT)), some (.lst (oth.map pairT)), some (.lst (TI.map .int)), some (.lst ((mineI one).map .int)), some (.lst ((mineI oth).map .int)), x7, x8, x9, x10, x11, some (.lst ((TI.map (cntI one)).map .int)), x13, x14, some (.tup ((hmR one).map triT)), some (.int (many)), x17, x18, x19, x20, x21, x22, x23, x24, x25, x26, x27, x28, x29]) (st := st) D.int (fun t => D.int (cntI one t)) (fun t => [x0, some (.ref n), some (.lst (one.map pairT)), some (.lst (oth.map pairT)), some (.lst (TI.map .int)), some (.lst ((mineI one).map .int)), some (.lst ((mineI oth).map .int)), some (.int (t)), x8, x9, x10, x11, some (.lst ((TI.map (cntI one)).map .int)), x13, x14, some (.tup ((hmR one).map triT)), some (.int (many)), x17, x18, x19, x20, x21, x22, x23, x24, x25, x26, x27, x28, x29]) TI (it_lst rfl) (by rw [TI_len]; omega) fun t _ => ⟨rfl, by
    unfold y_law_12
    have hl := hmR_len one
    refine call_run (cons1 (lcF_run triT (fun r => D.int r.2.2) (fun r => [x0, some (.ref n), some (.lst (one.map pairT)), some (.lst (oth.map pairT)), some (.lst (TI.map .int)), some (.lst ((mineI one).map .int)), some (.lst ((mineI oth).map .int)), some (.int (t)), x8, x9, some (triT r), x11, some (.lst ((TI.map (cntI one)).map .int)), x13, x14, some (.tup ((hmR one).map triT)), some (.int (many)), x17, x18, x19, x20, x21, x22, x23, x24, x25, x26, x27, x28, x29]) (fun r => inT r t) (hmR one) (it_tup rfl) (by have := ho.len; omega) fun r _ => ⟨rfl, b_run (chain_run rfl rfl rfl (fun _ => rfl) (fun _ => rfl)), fun _ => rfl⟩)) ?_
    have e : ((hmR one).filter fun r => inT r t).map (fun r => D.int r.2.2) = (((hmR one).filter fun r => inT r t).map (·.2.2)).map D.int := by rw [List.map_map]; rfl
    rw [e]
    show (match intsD ((((hmR one).filter fun r => inT r t).map (·.2.2)).map D.int) with
      | some ns => R.ok (D.int ns.sum) st
      | none => .bad) = _
    rw [ints_map]
    dsimp only
    rw [← (hmR_ok one).val t]
    rfl⟩
  have e : TI.map (fun t => D.int (cntI one t)) = (TI.map (cntI one)).map D.int := by rw [List.map_map]; rfl
  rw [e] at q
  exact pass q rfl (ne_ints _ st)
theorem zip_tri : ∀ (xs ys : List Rt), zipD (xs.map triT) (ys.map triT) = (xs.zip ys).map fun c => .tup [triT c.1, triT c.2]
  | [], ys => by cases ys <;> rfl
  | x :: xs, [] => rfl
  | x :: xs, y :: ys => by
    show D.tup [triT x, triT y] :: zipD (xs.map triT) (ys.map triT) = _
    rw [zip_tri xs ys]; rfl
theorem zip_pair {α : Type} {Rr : α → α → Prop} : ∀ {l : List α}, l.Pairwise Rr → ∀ c ∈ l.zip l.tail, Rr c.1 c.2
  | [], _, c, h => by cases h
  | [a], _, c, h => by cases h
  | a :: b :: l, hp, c, h => by
    obtain ⟨h1, h2⟩ := List.pairwise_cons.mp hp
    have h : c ∈ (a, b) :: (b :: l).zip l := h
    rcases List.mem_cons.mp h with rfl | h
    · exact h1 b List.mem_cons_self
    · exact zip_pair h2 c h
theorem k17 (ho : Dr one) (ht : Dr oth) : p_law_17 [x0, some (.ref n), some (.lst (one.map pairT)), some (.lst (oth.map pairT)), some (.lst (TI.map .int)), some (.lst ((mineI one).map .int)), some (.lst ((mineI oth).map .int)), x7, x8, x9, x10, x11, some (.lst ((TI.map (cntI one)).map .int)), x13, x14, some (.tup ((hmR one).map triT)), some (.int (many)), x17, x18, x19, x20, x21, x22, x23, x24, x25, x26, x27, x28, x29] st = .nx [x0, some (.ref n), some (.lst (one.map pairT)), some (.lst (oth.map pairT)), some (.lst (TI.map .int)), some (.lst ((mineI one).map .int)), some (.lst ((mineI oth).map .int)), x7, x8, x9, x10, x11, some (.lst ((TI.map (cntI one)).map .int)), x13, x14, some (.tup ((hmR one).map triT)), some (.int (many)), x17, x18, x19, x20, x21, x22, x23, x24, x25, x26, x27, x28, x29] st := by
  unfold p_law_17
  have hl := hmR_len one
  have it : dZip (dVar 15) (dSl false (dVar 15) (dP (dC (.int 1))) (dNoP)) [x0, some (.ref n), some (.lst (one.map pairT)), some (.lst (oth.map pairT)), some (.lst (TI.map .int)), some (.lst ((mineI one).map .int)), some (.lst ((mineI oth).map .int)), x7, x8, x9, x10, x11, some (.lst ((TI.map (cntI one)).map .int)), x13, x14, some (.tup ((hmR one).map triT)), some (.int (many)), x17, x18, x19, x20, x21, x22, x23, x24, x25, x26, x27, x28, x29] st = .ok (((hmR one).zip (hmR one).tail).map (fun c => .tup [triT c.1, triT c.2]), none) st := by
    unfold dZip
    have sl : dSl false (dVar 15) (dP (dC (.int 1))) (dNoP) [x0, some (.ref n), some (.lst (one.map pairT)), some (.lst (oth.map pairT)), some (.lst (TI.map .int)), some (.lst ((mineI one).map .int)), some (.lst ((mineI oth).map .int)), x7, x8, x9, x10, x11, some (.lst ((TI.map (cntI one)).map .int)), x13, x14, some (.tup ((hmR one).map triT)), some (.int (many)), x17, x18, x19, x20, x21, x22, x23, x24, x25, x26, x27, x28, x29] st = .ok (.tup ((hmR one).tail.map triT)) st := by
      show R.ok (D.tup (cutD ((hmR one).map triT) (some 1) none)) st = _
      rw [tail_cut, ← List.map_tail]
    rw [show dVar 15 [x0, some (.ref n), some (.lst (one.map pairT)), some (.lst (oth.map pairT)), some (.lst (TI.map .int)), some (.lst ((mineI one).map .int)), some (.lst ((mineI oth).map .int)), x7, x8, x9, x10, x11, some (.lst ((TI.map (cntI one)).map .int)), x13, x14, some (.tup ((hmR one).map triT)), some (.int (many)), x17, x18, x19, x20, x21, x22, x23, x24, x25, x26, x27, x28, x29] st = .ok (.tup ((hmR one).map triT)) st from rfl, R.bind_ok, sl, R.bind_ok]
    show R.ok (zipD ((hmR one).map triT) ((hmR one).tail.map triT), none) st = _
    rw [zip_tri]
  have q := lcF_run (gt := dgTup 2 (dgCons (dgName 10) (dgCons (dgName 11) (dgNil)))) (ft := dOr (dB (dBin aGt (dBin aIx (dVar 10) (dC (.int 1))) (dBin aIx (dVar 11) (dC (.int 0))))) (dAnd (dB (dBin aEq (dBin aIx (dVar 10) (dC (.int 1))) (dBin aIx (dVar 11) (dC (.int 0))))) (dB (dBin aEq (dBin aIx (dVar 10) (dC (.int 2))) (dBin aIx (dVar 11) (dC (.int 2))))))) (fe := y_law_13) (vs := [10, 11]) (env := [x0, some (.ref n), some (.lst (one.map pairT)), some (.lst (oth.map pairT)), some (.lst (TI.map .int)), some (.lst ((mineI one).map .int)), some (.lst ((mineI oth).map .int)), x7, x8, x9, x10, x11, some (.lst ((TI.map (cntI one)).map .int)), x13, x14, some (.tup ((hmR one).map triT)), some (.int (many)), x17, x18, x19, x20, x21, x22, x23, x24, x25, x26, x27, x28, x29]) (st := st) (fun c : Rt × Rt => .tup [triT c.1, triT c.2]) (fun _ => D.int 1) (fun c => [x0, some (.ref n), some (.lst (one.map pairT)), some (.lst (oth.map pairT)), some (.lst (TI.map .int)), some (.lst ((mineI one).map .int)), some (.lst ((mineI oth).map .int)), x7, x8, x9, some (triT c.1), some (triT c.2), some (.lst ((TI.map (cntI one)).map .int)), x13, x14, some (.tup ((hmR one).map triT)), some (.int (many)), x17, x18, x19, x20, x21, x22, x23, x24, x25, x26, x27, x28, x29]) (fun c => decide (c.2.1 < c.1.2.1) || (decide (c.1.2.1 = c.2.1) && decide (c.1.2.2 = c.2.2.2))) ((hmR one).zip (hmR one).tail) it (by rw [List.length_zip]; have := ho.len; omega) fun c _ => ⟨rfl, or_run (b_run rfl) (fun _ => and_run (b_run (bin_run rfl rfl (eq_int _ _ st))) fun _ => b_run (bin_run rfl rfl (eq_int _ _ st))), fun _ => rfl⟩
  have e : ((hmR one).zip (hmR one).tail).filter (fun c => decide (c.2.1 < c.1.2.1) || (decide (c.1.2.1 = c.2.1) && decide (c.1.2.2 = c.2.2.2))) = [] := by
    rw [List.filter_eq_nil_iff]
    intro c hc
    have := zip_pair (hmR_ok one).pair c hc
    unfold RT at this
    rw [Bool.or_eq_true, Bool.and_eq_true, decide_eq_true_eq, decide_eq_true_eq, decide_eq_true_eq]
    omega
  rw [e] at q
  exact pass q nil_run (ne_emp st)
theorem k18 (ho : Dr one) (ht : Dr oth) : p_law_18 [x0, some (.ref n), some (.lst (one.map pairT)), some (.lst (oth.map pairT)), some (.lst (TI.map .int)), some (.lst ((mineI one).map .int)), some (.lst ((mineI oth).map .int)), x7, x8, x9, x10, x11, some (.lst ((TI.map (cntI one)).map .int)), x13, x14, some (.tup ((hmR one).map triT)), some (.int (many)), x17, x18, x19, x20, x21, x22, x23, x24, x25, x26, x27, x28, x29] st = .nx [x0, some (.ref n), some (.lst (one.map pairT)), some (.lst (oth.map pairT)), some (.lst (TI.map .int)), some (.lst ((mineI one).map .int)), some (.lst ((mineI oth).map .int)), x7, x8, x9, x10, x11, some (.lst ((TI.map (cntI one)).map .int)), x13, x14, some (.tup ((hmR one).map triT)), some (.int (many)), x17, x18, x19, x20, x21, x22, x23, x24, x25, x26, x27, x28, x29] st := by
  unfold p_law_18
  have hl := hmR_len one
  have q := lcF_run (fi := dIt (dVar 15)) (gt := dgName 10) (ft := dB (dBin aLt (dBin aIx (dVar 10) (dC (.int 2))) (dC (.int 1)))) (fe := y_law_14) (vs := [10]) (env := [x0, some (.ref n), some (.lst (one.map pairT)), some (.lst (oth.map pairT)), some (.lst (TI.map .int)), some (.lst ((mineI one).map .int)), some (.lst ((mineI oth).map .int)), x7, x8, x9, x10, x11, some (.lst ((TI.map (cntI one)).map .int)), x13, x14, some (.tup ((hmR one).map triT)), some (.int (many)), x17, x18, x19, x20, x21, x22, x23, x24, x25, x26, x27, x28, x29]) (st := st) triT triT (fun c => [x0, some (.ref n), some (.lst (one.map pairT)), some (.lst (oth.map pairT)), some (.lst (TI.map .int)), some (.lst ((mineI one).map .int)), some (.lst ((mineI oth).map .int)), x7, x8, x9, some (triT c), x11, some (.lst ((TI.map (cntI one)).map .int)), x13, x14, some (.tup ((hmR one).map triT)), some (.int (many)), x17, x18, x19, x20, x21, x22, x23, x24, x25, x26, x27, x28, x29]) (fun c => decide (c.2.2 < 1)) (hmR one) (it_tup rfl) (by have := ho.len; omega) fun c _ => ⟨rfl, b_run rfl, fun _ => rfl⟩
  have e : (hmR one).filter (fun c => decide (c.2.2 < 1)) = [] := by
    rw [List.filter_eq_nil_iff]
    intro c hc
    have := (hmR_ok one).row c hc
    rw [decide_eq_true_eq]
    omega
  rw [e] at q
  exact pass q nil_run (ne_emp st)
theorem k19 (ho : Dr one) (ht : Dr oth) (hst : stCl st.length st = true) : p_law_19 [x0, some (.ref n), some (.lst (one.map pairT)), some (.lst (oth.map pairT)), some (.lst (TI.map .int)), some (.lst ((mineI one).map .int)), some (.lst ((mineI oth).map .int)), x7, x8, x9, x10, x11, some (.lst ((TI.map (cntI one)).map .int)), x13, x14, some (.tup ((hmR one).map triT)), some (.int (many)), x17, x18, x19, x20, x21, x22, x23, x24, x25, x26, x27, x28, x29] st = .nx [x0, some (.ref n), some (.lst (one.map pairT)), some (.lst (oth.map pairT)), some (.lst (TI.map .int)), some (.lst ((mineI one).map .int)), some (.lst ((mineI oth).map .int)), x7, x8, x9, x10, x11, some (.lst ((TI.map (cntI one)).map .int)), x13, x14, some (.tup ((hmR one).map triT)), some (.int (many)), x17, x18, x19, x20, x21, x22, x23, x24, x25, x26, x27, x28, x29] st := by
  unfold p_law_19
  obtain ⟨ns, n', e1, e2⟩ := most_law ho
  have q : bMaxA [.lst ((TI.map (cntI one)).map .int)] st = .ok (.int (mxI ((hmR one).map (·.2.2)))) st := by
    show (match (intsD ((TI.map (cntI one)).map D.int)).bind maxI with
      | some n => R.ok (D.int n) st
      | none => .bad) = _
    rw [ints_map, e1, ← e2]
    rfl
  exact pass (call_run (cons1 rfl) (e_most (d := .lst (one.map pairT)) (.inl rfl) (by have := ho.len; omega) ho.v hst)) (call_run (cons1 rfl) q) (ne_i _ st)
theorem k20 (ho : Dr one) (ht : Dr oth) {many : Int} (hm : 1 ≤ many) (hst : stCl st.length st = true) : p_law_20 [x0, some (.ref n), some (.lst (one.map pairT)), some (.lst (oth.map pairT)), some (.lst (TI.map .int)), some (.lst ((mineI one).map .int)), some (.lst ((mineI oth).map .int)), x7, x8, x9, x10, x11, some (.lst ((TI.map (cntI one)).map .int)), x13, x14, some (.tup ((hmR one).map triT)), some (.int (many)), x17, x18, x19, x20, x21, x22, x23, x24, x25, x26, x27, x28, x29] st = .nx [x0, some (.ref n), some (.lst (one.map pairT)), some (.lst (oth.map pairT)), some (.lst (TI.map .int)), some (.lst ((mineI one).map .int)), some (.lst ((mineI oth).map .int)), x7, x8, x9, x10, x11, some (.lst ((TI.map (cntI one)).map .int)), x13, x14, some (.tup ((hmR one).map triT)), some (.int (many)), x17, x18, x19, x20, x21, x22, x23, x24, x25, x26, x27, x28, x29] st := by
  unfold p_law_20
  have it : dZip (dVar 4) (dVar 12) [x0, some (.ref n), some (.lst (one.map pairT)), some (.lst (oth.map pairT)), some (.lst (TI.map .int)), some (.lst ((mineI one).map .int)), some (.lst ((mineI oth).map .int)), x7, x8, x9, x10, x11, some (.lst ((TI.map (cntI one)).map .int)), x13, x14, some (.tup ((hmR one).map triT)), some (.int (many)), x17, x18, x19, x20, x21, x22, x23, x24, x25, x26, x27, x28, x29] st = .ok (TI.map (fun t => pairT (t, cntI one t)), none) st := by
    show R.ok (zipD (TI.map D.int) ((TI.map (cntI one)).map D.int), none) st = _
    rw [zip_pairs, zip_self, List.map_map]
    rfl
  have q := lcF_run (gt := dgTup 2 (dgCons (dgName 7) (dgCons (dgName 17) (dgNil)))) (ft := dB (dBin aGe (dVar 17) (dVar 16))) (fe := y_law_15) (vs := [7, 17]) (env := [x0, some (.ref n), some (.lst (one.map pairT)), some (.lst (oth.map pairT)), some (.lst (TI.map .int)), some (.lst ((mineI one).map .int)), some (.lst ((mineI oth).map .int)), x7, x8, x9, x10, x11, some (.lst ((TI.map (cntI one)).map .int)), x13, x14, some (.tup ((hmR one).map triT)), some (.int (many)), x17, x18, x19, x20, x21, x22, x23, x24, x25, x26, x27, x28, x29]) (st := st) (fun t => pairT (t, cntI one t)) D.int (fun t => [x0, some (.ref n), some (.lst (one.map pairT)), some (.lst (oth.map pairT)), some (.lst (TI.map .int)), some (.lst ((mineI one).map .int)), some (.lst ((mineI oth).map .int)), some (.int (t)), x8, x9, x10, x11, some (.lst ((TI.map (cntI one)).map .int)), x13, x14, some (.tup ((hmR one).map triT)), some (.int (many)), some (.int (cntI one t)), x18, x19, x20, x21, x22, x23, x24, x25, x26, x27, x28, x29]) (fun t => decide (cntI one t ≥ many)) TI it (by rw [TI_len]; omega) fun t _ => ⟨rfl, b_run rfl, fun _ => rfl⟩
  have j := e_ial (d := .lst (one.map pairT)) (.inl rfl) (by have := ho.len; omega) ho.v hm hst
  rw [ial_made ho hm] at j
  exact pass (list_run (call_run (cons2 rfl rfl) j)) (call_run (cons1 q) (e_made (by have := flt_len (fun t => decide (cntI one t ≥ many)) TI; rw [TI_len] at this; omega) (TI_asc.filter _) st)) (ne_rows _ st)
theorem k22 (ho : Dr one) (ht : Dr oth) {long step start : Int} (h1 : 1 ≤ long ∧ long ≤ 10) (h2 : 1 ≤ step ∧ step ≤ 10) (h3 : 0 ≤ start ∧ start ≤ 20)  : p_law_22 [x0, some (.ref n), some (.lst (one.map pairT)), some (.lst (oth.map pairT)), some (.lst (TI.map .int)), some (.lst ((mineI one).map .int)), some (.lst ((mineI oth).map .int)), x7, x8, x9, x10, x11, some (.lst ((TI.map (cntI one)).map .int)), x13, x14, some (.tup ((hmR one).map triT)), some (.int (many)), x17, some (.int (long)), some (.int (step)), some (.int (start)), x21, x22, x23, x24, x25, x26, x27, x28, x29] st = .nx [x0, some (.ref n), some (.lst (one.map pairT)), some (.lst (oth.map pairT)), some (.lst (TI.map .int)), some (.lst ((mineI one).map .int)), some (.lst ((mineI oth).map .int)), x7, x8, x9, x10, x11, some (.lst ((TI.map (cntI one)).map .int)), x13, x14, some (.tup ((hmR one).map triT)), some (.int (many)), x17, some (.int (long)), some (.int (step)), some (.int (start)), some (.lst ((ableI one long step start).map .int)), x22, x23, x24, x25, x26, x27, x28, x29] st := by
  unfold p_law_22
  have q := lcF_run (fi := dRng2 (dVar 20) (dC (.int 45))) (gt := dgName 7) (ft := dAnd (dB (dBin aEq (dBin aMod (dVar 7) (dVar 19)) (dC (.int 0)))) (dB (dBin aEq (dLc false (dRng1 (dVar 18)) (dgName 22) (dB (dBin (aIn true) (dBin (aAdd false) (dVar 7) (dVar 22)) (dVar 5))) y_law_16 [22]) (dLst false (dNil))))) (fe := y_law_17) (vs := [7]) (env := [x0, some (.ref n), some (.lst (one.map pairT)), some (.lst (oth.map pairT)), some (.lst (TI.map .int)), some (.lst ((mineI one).map .int)), some (.lst ((mineI oth).map .int)), x7, x8, x9, x10, x11, some (.lst ((TI.map (cntI one)).map .int)), x13, x14, some (.tup ((hmR one).map triT)), some (.int (many)), x17, some (.int (long)), some (.int (step)), some (.int (start)), x21, x22, x23, x24, x25, x26, x27, x28, x29]) (st := st) D.int D.int (fun t => [x0, some (.ref n), some (.lst (one.map pairT)), some (.lst (oth.map pairT)), some (.lst (TI.map .int)), some (.lst ((mineI one).map .int)), some (.lst ((mineI oth).map .int)), some (.int (t)), x8, x9, x10, x11, some (.lst ((TI.map (cntI one)).map .int)), x13, x14, some (.tup ((hmR one).map triT)), some (.int (many)), x17, some (.int (long)), some (.int (step)), some (.int (start)), x21, x22, x23, x24, x25, x26, x27, x28, x29]) (fun w => decide (w % step = 0) && ((rngI 0 long).filter fun k => !decide (w + k ∈ mineI one)).isEmpty) (rngI start 45) (rng2_run rfl rfl (by omega) (by omega)) (by rw [rngI_len]; omega) fun t _ => ⟨rfl, by
    have md : aMod (.int t) (.int step) st = .ok (.int (t % step)) st := by
      show (if step ≠ 0 then R.ok (D.int (t.fmod step)) st else R.bad) = _
      rw [if_pos (by omega), Int.fmod_eq_emod_of_nonneg _ (by omega)]
    refine and_run (b_run (bin_run (bin_run rfl rfl md) rfl (eq_int _ _ st))) fun _ => ?_
    have q := lcF_run (fi := dRng1 (dVar 18)) (gt := dgName 22) (ft := dB (dBin (aIn true) (dBin (aAdd false) (dVar 7) (dVar 22)) (dVar 5))) (fe := y_law_16) (vs := [22]) (env := [x0, some (.ref n), some (.lst (one.map pairT)), some (.lst (oth.map pairT)), some (.lst (TI.map .int)), some (.lst ((mineI one).map .int)), some (.lst ((mineI oth).map .int)), some (.int (t)), x8, x9, x10, x11, some (.lst ((TI.map (cntI one)).map .int)), x13, x14, some (.tup ((hmR one).map triT)), some (.int (many)), x17, some (.int (long)), some (.int (step)), some (.int (start)), x21, x22, x23, x24, x25, x26, x27, x28, x29]) (st := st) D.int D.int (fun k => [x0, some (.ref n), some (.lst (one.map pairT)), some (.lst (oth.map pairT)), some (.lst (TI.map .int)), some (.lst ((mineI one).map .int)), some (.lst ((mineI oth).map .int)), some (.int (t)), x8, x9, x10, x11, some (.lst ((TI.map (cntI one)).map .int)), x13, x14, some (.tup ((hmR one).map triT)), some (.int (many)), x17, some (.int (long)), some (.int (step)), some (.int (start)), x21, some (.int (k)), x23, x24, x25, x26, x27, x28, x29]) (fun k => !decide (t + k ∈ mineI one)) (rngI 0 long) (rng1_runI rfl (by omega)) (by rw [rngI_len]; omega) fun k _ => ⟨rfl, b_run (bin_run (x := .int (t + k)) rfl rfl (in_run true (t + k) (mineI one) st)), fun _ => rfl⟩
    have e := eq_lst (dats_int ((rngI 0 long).filter fun k => !decide (t + k ∈ mineI one))) (by have := deps_int ((rngI 0 long).filter fun k => !decide (t + k ∈ mineI one)); omega) st
    rw [List.isEmpty_map] at e
    exact b_run (bin_run q nil_run e), fun _ => rfl⟩
  exact asg_run q rfl
theorem k23 (ho : Dr one) (ht : Dr oth) {long step start : Int} (h1 : 1 ≤ long ∧ long ≤ 10) (h2 : 1 ≤ step ∧ step ≤ 10) (h3 : 0 ≤ start ∧ start ≤ 20) (hst : stCl st.length st = true) : p_law_23 [x0, some (.ref n), some (.lst (one.map pairT)), some (.lst (oth.map pairT)), some (.lst (TI.map .int)), some (.lst ((mineI one).map .int)), some (.lst ((mineI oth).map .int)), x7, x8, x9, x10, x11, some (.lst ((TI.map (cntI one)).map .int)), x13, x14, some (.tup ((hmR one).map triT)), some (.int (many)), x17, some (.int (long)), some (.int (step)), some (.int (start)), some (.lst ((ableI one long step start).map .int)), x22, x23, x24, x25, x26, x27, x28, x29] st = .nx [x0, some (.ref n), some (.lst (one.map pairT)), some (.lst (oth.map pairT)), some (.lst (TI.map .int)), some (.lst ((mineI one).map .int)), some (.lst ((mineI oth).map .int)), x7, x8, x9, x10, x11, some (.lst ((TI.map (cntI one)).map .int)), x13, x14, some (.tup ((hmR one).map triT)), some (.int (many)), x17, some (.int (long)), some (.int (step)), some (.int (start)), some (.lst ((ableI one long step start).map .int)), x22, x23, x24, x25, x26, x27, x28, x29] st := by
  unfold p_law_23
  have j := e_fit (d := .lst (one.map pairT)) (start := start) (.inl rfl) (by have := ho.len; omega) ho.v h1.1 h2.1 hst
  have hl : (ableI one long step start).length ≤ 1000 := by
    have := flt_len (fun w => decide (w % step = 0) && ((rngI 0 long).filter fun k => !decide (w + k ∈ mineI one)).isEmpty) (rngI start 45)
    rw [rngI_len] at this
    unfold ableI
    omega
  have a : dBin (aAdd false) (dVar 21) (dLst false (dCons (dC .non) (dNil))) [x0, some (.ref n), some (.lst (one.map pairT)), some (.lst (oth.map pairT)), some (.lst (TI.map .int)), some (.lst ((mineI one).map .int)), some (.lst ((mineI oth).map .int)), x7, x8, x9, x10, x11, some (.lst ((TI.map (cntI one)).map .int)), x13, x14, some (.tup ((hmR one).map triT)), some (.int (many)), x17, some (.int (long)), some (.int (step)), some (.int (start)), some (.lst ((ableI one long step start).map .int)), x22, x23, x24, x25, x26, x27, x28, x29] st = .ok (.lst ((ableI one long step start).map .int ++ [.non])) st :=
    bin_run rfl (lst_run (cons1 rfl) (by show 1 ≤ _; omega) rfl) (add_ds _ _ (by rw [List.length_map]; show _ + 1 ≤ _; omega) st)
  have b : aIx (.lst ((ableI one long step start).map .int ++ [.non])) (.int 0) st = .ok (oD (fitI long step start (joinI one))) st := by
    rw [← fit_law ho h1.1 h2.1]
    cases ableI one long step start with
    | nil => exact head_ix _ _ st
    | cons w t => exact head_ix _ _ st
  refine pass (call_run (cons_run rfl (cons_run rfl (cons2 rfl rfl))) j) (bin_run a rfl b) ?_
  cases fitI long step start (joinI one) <;> exact ne_self rfl rfl (Nat.zero_le _)
theorem k25 (ho : Dr one) (ht : Dr oth) {long step start bk ah be : Int}  : p_law_25 [x0, some (.ref n), some (.lst (one.map pairT)), some (.lst (oth.map pairT)), some (.lst (TI.map .int)), some (.lst ((mineI one).map .int)), some (.lst ((mineI oth).map .int)), x7, x8, x9, x10, x11, some (.lst ((TI.map (cntI one)).map .int)), x13, x14, some (.tup ((hmR one).map triT)), some (.int (many)), x17, some (.int (long)), some (.int (step)), some (.int (start)), some (.lst ((ableI one long step start).map .int)), x22, some (.int (bk)), some (.int (ah)), some (.int (be)), x26, x27, x28, x29] st = .nx [x0, some (.ref n), some (.lst (one.map pairT)), some (.lst (oth.map pairT)), some (.lst (TI.map .int)), some (.lst ((mineI one).map .int)), some (.lst ((mineI oth).map .int)), x7, x8, x9, x10, x11, some (.lst ((TI.map (cntI one)).map .int)), x13, x14, some (.tup ((hmR one).map triT)), some (.int (many)), x17, some (.int (long)), some (.int (step)), some (.int (start)), some (.lst ((ableI one long step start).map .int)), x22, some (.int (bk)), some (.int (ah)), some (.int (be)), some (.lst ((widR one ah be).map pairT)), x27, x28, x29] st := by
  unfold p_law_25
  have q := lcF_run (fi := dIt (dVar 2)) (gt := dgTup 2 (dgCons (dgName 13) (dgCons (dgName 14) (dgNil)))) (ft := dB (dBin aLt (dBin aSub (dVar 13) (dVar 24)) (dBin (aAdd false) (dVar 14) (dVar 25)))) (fe := y_law_18) (vs := [13, 14]) (env := [x0, some (.ref n), some (.lst (one.map pairT)), some (.lst (oth.map pairT)), some (.lst (TI.map .int)), some (.lst ((mineI one).map .int)), some (.lst ((mineI oth).map .int)), x7, x8, x9, x10, x11, some (.lst ((TI.map (cntI one)).map .int)), x13, x14, some (.tup ((hmR one).map triT)), some (.int (many)), x17, some (.int (long)), some (.int (step)), some (.int (start)), some (.lst ((ableI one long step start).map .int)), x22, some (.int (bk)), some (.int (ah)), some (.int (be)), x26, x27, x28, x29]) (st := st) pairT (fun p => pairT (p.1 - ah, p.2 + be)) (fun p => [x0, some (.ref n), some (.lst (one.map pairT)), some (.lst (oth.map pairT)), some (.lst (TI.map .int)), some (.lst ((mineI one).map .int)), some (.lst ((mineI oth).map .int)), x7, x8, x9, x10, x11, some (.lst ((TI.map (cntI one)).map .int)), some (.int (p.1)), some (.int (p.2)), some (.tup ((hmR one).map triT)), some (.int (many)), x17, some (.int (long)), some (.int (step)), some (.int (start)), some (.lst ((ableI one long step start).map .int)), x22, some (.int (bk)), some (.int (ah)), some (.int (be)), x26, x27, x28, x29]) (fun p => decide (p.1 - ah < p.2 + be)) one (it_lst rfl) (by have := ho.len; omega) fun p _ => ⟨rfl, b_run rfl, fun _ => tup2 rfl rfl⟩
  have e : (one.filter fun p => decide (p.1 - ah < p.2 + be)).map (fun p => pairT (p.1 - ah, p.2 + be)) = (widR one ah be).map pairT := by unfold widR; rw [List.map_map]; rfl
  rw [e] at q
  exact asg_run q rfl
theorem k26 (ho : Dr one) (ht : Dr oth) {long step start bk ah be : Int}  : p_law_26 [x0, some (.ref n), some (.lst (one.map pairT)), some (.lst (oth.map pairT)), some (.lst (TI.map .int)), some (.lst ((mineI one).map .int)), some (.lst ((mineI oth).map .int)), x7, x8, x9, x10, x11, some (.lst ((TI.map (cntI one)).map .int)), x13, x14, some (.tup ((hmR one).map triT)), some (.int (many)), x17, some (.int (long)), some (.int (step)), some (.int (start)), some (.lst ((ableI one long step start).map .int)), x22, some (.int (bk)), some (.int (ah)), some (.int (be)), some (.lst ((widR one ah be).map pairT)), x27, x28, x29] st = .nx [x0, some (.ref n), some (.lst (one.map pairT)), some (.lst (oth.map pairT)), some (.lst (TI.map .int)), some (.lst ((mineI one).map .int)), some (.lst ((mineI oth).map .int)), x7, x8, x9, x10, x11, some (.lst ((TI.map (cntI one)).map .int)), x13, x14, some (.tup ((hmR one).map triT)), some (.int (many)), x17, some (.int (long)), some (.int (step)), some (.int (start)), some (.lst ((ableI one long step start).map .int)), x22, some (.int (bk)), some (.int (ah)), some (.int (be)), some (.lst ((widR one ah be).map pairT)), x27, x28, x29] st := by
  unfold p_law_26
  have q := lcM_run (fi := dIt (dVar 2)) (gt := dgTup 2 (dgCons (dgName 13) (dgCons (dgName 14) (dgNil)))) (fe := y_law_19) (vs := [13, 14]) (env := [x0, some (.ref n), some (.lst (one.map pairT)), some (.lst (oth.map pairT)), some (.lst (TI.map .int)), some (.lst ((mineI one).map .int)), some (.lst ((mineI oth).map .int)), x7, x8, x9, x10, x11, some (.lst ((TI.map (cntI one)).map .int)), x13, x14, some (.tup ((hmR one).map triT)), some (.int (many)), x17, some (.int (long)), some (.int (step)), some (.int (start)), some (.lst ((ableI one long step start).map .int)), x22, some (.int (bk)), some (.int (ah)), some (.int (be)), some (.lst ((widR one ah be).map pairT)), x27, x28, x29]) (st := st) pairT (fun p => pairT (p.1 + bk, p.2 + bk)) (fun p => [x0, some (.ref n), some (.lst (one.map pairT)), some (.lst (oth.map pairT)), some (.lst (TI.map .int)), some (.lst ((mineI one).map .int)), some (.lst ((mineI oth).map .int)), x7, x8, x9, x10, x11, some (.lst ((TI.map (cntI one)).map .int)), some (.int (p.1)), some (.int (p.2)), some (.tup ((hmR one).map triT)), some (.int (many)), x17, some (.int (long)), some (.int (step)), some (.int (start)), some (.lst ((ableI one long step start).map .int)), x22, some (.int (bk)), some (.int (ah)), some (.int (be)), some (.lst ((widR one ah be).map pairT)), x27, x28, x29]) one (it_lst rfl) (by have := ho.len; omega) fun p _ => ⟨rfl, tup2 rfl rfl⟩
  have e : one.map (fun p => pairT (p.1 + bk, p.2 + bk)) = (one.map fun p => (p.1 + bk, p.2 + bk)).map pairT := by rw [List.map_map]; rfl
  rw [e] at q
  exact pass (list_run (call_run (cons2 rfl rfl) (e_moved (d := .lst (one.map pairT)) (.inl rfl) (by have := ho.len; omega) ho.v bk st))) q (ne_rows _ st)
theorem k27 (ho : Dr one) (ht : Dr oth) {long step start bk ah be : Int} (h1 : -3 ≤ ah ∧ ah ≤ 3) (h2 : -3 ≤ be ∧ be ≤ 3) (hst : stCl st.length st = true) : p_law_27 [x0, some (.ref n), some (.lst (one.map pairT)), some (.lst (oth.map pairT)), some (.lst (TI.map .int)), some (.lst ((mineI one).map .int)), some (.lst ((mineI oth).map .int)), x7, x8, x9, x10, x11, some (.lst ((TI.map (cntI one)).map .int)), x13, x14, some (.tup ((hmR one).map triT)), some (.int (many)), x17, some (.int (long)), some (.int (step)), some (.int (start)), some (.lst ((ableI one long step start).map .int)), x22, some (.int (bk)), some (.int (ah)), some (.int (be)), some (.lst ((widR one ah be).map pairT)), x27, x28, x29] st = .nx [x0, some (.ref n), some (.lst (one.map pairT)), some (.lst (oth.map pairT)), some (.lst (TI.map .int)), some (.lst ((mineI one).map .int)), some (.lst ((mineI oth).map .int)), x7, x8, x9, x10, x11, some (.lst ((TI.map (cntI one)).map .int)), x13, x14, some (.tup ((hmR one).map triT)), some (.int (many)), x17, some (.int (long)), some (.int (step)), some (.int (start)), some (.lst ((ableI one long step start).map .int)), x22, some (.int (bk)), some (.int (ah)), some (.int (be)), some (.lst ((widR one ah be).map pairT)), x27, x28, x29] st := by
  unfold p_law_27
  have q := lcF_run (fi := dIt (dVar 4)) (gt := dgName 7) (ft := dTru (dCall f__law_at (dCons (dVar 26) (dCons (dVar 7) (dNil))))) (fe := y_law_20) (vs := [7]) (env := [x0, some (.ref n), some (.lst (one.map pairT)), some (.lst (oth.map pairT)), some (.lst (TI.map .int)), some (.lst ((mineI one).map .int)), some (.lst ((mineI oth).map .int)), x7, x8, x9, x10, x11, some (.lst ((TI.map (cntI one)).map .int)), x13, x14, some (.tup ((hmR one).map triT)), some (.int (many)), x17, some (.int (long)), some (.int (step)), some (.int (start)), some (.lst ((ableI one long step start).map .int)), x22, some (.int (bk)), some (.int (ah)), some (.int (be)), some (.lst ((widR one ah be).map pairT)), x27, x28, x29]) (st := st) D.int D.int (fun t => [x0, some (.ref n), some (.lst (one.map pairT)), some (.lst (oth.map pairT)), some (.lst (TI.map .int)), some (.lst ((mineI one).map .int)), some (.lst ((mineI oth).map .int)), some (.int (t)), x8, x9, x10, x11, some (.lst ((TI.map (cntI one)).map .int)), x13, x14, some (.tup ((hmR one).map triT)), some (.int (many)), x17, some (.int (long)), some (.int (step)), some (.int (start)), some (.lst ((ableI one long step start).map .int)), x22, some (.int (bk)), some (.int (ah)), some (.int (be)), some (.lst ((widR one ah be).map pairT)), x27, x28, x29]) (fun t => atR (widR one ah be) t) TI (it_lst rfl) (by rw [TI_len]; omega) fun t _ => ⟨rfl, tru_run (call_run (cons2 rfl rfl) (e_lat (.inl rfl) (by have := ho.len; have := wid_len one ah be; omega) t st)) rfl, fun _ => rfl⟩
  have j := e_wider (d := .lst (one.map pairT)) (.inl rfl) (by have := ho.len; omega) ho.v ah be hst
  rw [wid_made ho h1 h2] at j
  exact pass (list_run (call_run (cons_run rfl (cons2 rfl rfl)) j)) (call_run (cons1 q) (e_made (by have := flt_len (fun t => atR (widR one ah be) t) TI; rw [TI_len] at this; omega) (TI_asc.filter _) st)) (ne_rows _ st)
theorem k28 (ho : Dr one) (ht : Dr oth) {long step start bk ah be : Int} (hst : stCl st.length st = true) : p_law_28 [x0, some (.ref n), some (.lst (one.map pairT)), some (.lst (oth.map pairT)), some (.lst (TI.map .int)), some (.lst ((mineI one).map .int)), some (.lst ((mineI oth).map .int)), x7, x8, x9, x10, x11, some (.lst ((TI.map (cntI one)).map .int)), x13, x14, some (.tup ((hmR one).map triT)), some (.int (many)), x17, some (.int (long)), some (.int (step)), some (.int (start)), some (.lst ((ableI one long step start).map .int)), x22, some (.int (bk)), some (.int (ah)), some (.int (be)), some (.lst ((widR one ah be).map pairT)), x27, x28, x29] st = .nx [x0, some (.ref n), some (.lst (one.map pairT)), some (.lst (oth.map pairT)), some (.lst (TI.map .int)), some (.lst ((mineI one).map .int)), some (.lst ((mineI oth).map .int)), x7, x8, x9, x10, x11, some (.lst ((TI.map (cntI one)).map .int)), x13, x14, some (.tup ((hmR one).map triT)), some (.int (many)), x17, some (.int (long)), some (.int (step)), some (.int (start)), some (.lst ((ableI one long step start).map .int)), x22, some (.int (bk)), some (.int (ah)), some (.int (be)), some (.lst ((widR one ah be).map pairT)), some (.tup ((ptsI one).map .int)), x28, x29] st := by
  unfold p_law_28
  exact asg_run (call_run (cons1 rfl) (e_points (d := .lst (one.map pairT)) (.inl rfl) (by have := ho.len; omega) ho.v hst)) rfl
theorem gst_fold {α : Type} (r : α → Rw) : ∀ (l acc : List α), (l.foldl (gst r) acc).length ≤ acc.length + l.length
  | [], acc => Nat.le_refl _
  | a :: l, acc => by
    have := gst_fold r l (gst r acc a)
    have := gst_len r acc a
    rw [List.foldl_cons, List.length_cons]
    omega
theorem pts_len (l : List Rw) : (ptsI l).length ≤ l.length := by
  have := gst_fold (fun p : Rw => p) (byEnd l) []
  rw [(byEnd_perm l).length_eq, List.length_nil] at this
  unfold ptsI
  rw [List.length_map]
  show ((byEnd l).foldl (gst fun p => p) []).length ≤ _
  omega
theorem ap_len (l : List Rw) : (apI l).length ≤ l.length := by
  have := gst_fold (rowAt l) (ksI l) []
  rw [(ks_perm l).length_eq, upto_len, List.length_nil] at this
  unfold apI
  rw [(sortI_perm _).length_eq]
  show ((ksI l).foldl (gst (rowAt l)) []).length ≤ _
  omega
theorem choice {l : List Rw} (h : Dr l) : (ptsI l).Pairwise (· < ·) ∧ (∀ p ∈ l, ∃ x ∈ ptsI l, p.1 ≤ x ∧ x < p.2) ∧ clashI l (apI l) = false ∧ ((apI l).length : Int) = bestI l (setsI (upto l.length)) ∧ ((ptsI l).length : Int) = bestI l (setsI (upto l.length)) :=
  greedy h.v (byEnd_perm l) (byEnd_sorted l) (ks_perm l) (ks_sorted l) (apart_ok l).1 (apart_ok l).2
theorem ap_mem (l : List Rw) : ∀ k ∈ apI l, 0 ≤ k ∧ k < l.length := fun k hk => by
  have h1 := (apart_ok l).1.mem_iff.mp hk
  have : ∀ (ks acc : List Int), k ∈ ks.foldl (gst (rowAt l)) acc → k ∈ acc ∨ k ∈ ks := by
    intro ks
    induction ks with
    | nil => intro acc h; exact .inl h
    | cons a ks ih =>
      intro acc h
      rcases ih _ h with h | h
      · rcases List.eq_nil_or_concat acc with rfl | ⟨A, q, rfl⟩
        · rw [show gst (rowAt l) [] a = [a] from rfl, List.mem_singleton] at h
          rw [h]; exact .inr List.mem_cons_self
        · rw [List.concat_eq_append, gst_last] at h
          split at h
          · rcases List.mem_append.mp h with h | h
            · rw [List.concat_eq_append]; exact .inl h
            · rw [List.mem_singleton.mp h]; exact .inr List.mem_cons_self
          · rw [List.concat_eq_append]; exact .inl h
      · exact .inr (List.mem_cons_of_mem _ h)
  rcases this _ _ h1 with h | h
  · cases h
  · exact upto_mem ((ks_perm l).mem_iff.mp h)
theorem k29 (ho : Dr one) (ht : Dr oth) {long step start bk ah be : Int}  : p_law_29 [x0, some (.ref n), some (.lst (one.map pairT)), some (.lst (oth.map pairT)), some (.lst (TI.map .int)), some (.lst ((mineI one).map .int)), some (.lst ((mineI oth).map .int)), x7, x8, x9, x10, x11, some (.lst ((TI.map (cntI one)).map .int)), x13, x14, some (.tup ((hmR one).map triT)), some (.int (many)), x17, some (.int (long)), some (.int (step)), some (.int (start)), some (.lst ((ableI one long step start).map .int)), x22, some (.int (bk)), some (.int (ah)), some (.int (be)), some (.lst ((widR one ah be).map pairT)), some (.tup ((ptsI one).map .int)), x28, x29] st = .nx [x0, some (.ref n), some (.lst (one.map pairT)), some (.lst (oth.map pairT)), some (.lst (TI.map .int)), some (.lst ((mineI one).map .int)), some (.lst ((mineI oth).map .int)), x7, x8, x9, x10, x11, some (.lst ((TI.map (cntI one)).map .int)), x13, x14, some (.tup ((hmR one).map triT)), some (.int (many)), x17, some (.int (long)), some (.int (step)), some (.int (start)), some (.lst ((ableI one long step start).map .int)), x22, some (.int (bk)), some (.int (ah)), some (.int (be)), some (.lst ((widR one ah be).map pairT)), some (.tup ((ptsI one).map .int)), x28, x29] st := by
  unfold p_law_29
  have pl := pts_len one
  have q := lcF_run (fi := dIt (dVar 2)) (gt := dgName 10) (ft := dB (dBin aEq (dLc false (dIt (dVar 27)) (dgName 7) (dB (dChain aLeT aLt (dBin aIx (dVar 10) (dC (.int 0))) (dVar 7) (dBin aIx (dVar 10) (dC (.int 1))))) y_law_21 [7]) (dLst false (dNil)))) (fe := y_law_22) (vs := [10]) (env := [x0, some (.ref n), some (.lst (one.map pairT)), some (.lst (oth.map pairT)), some (.lst (TI.map .int)), some (.lst ((mineI one).map .int)), some (.lst ((mineI oth).map .int)), x7, x8, x9, x10, x11, some (.lst ((TI.map (cntI one)).map .int)), x13, x14, some (.tup ((hmR one).map triT)), some (.int (many)), x17, some (.int (long)), some (.int (step)), some (.int (start)), some (.lst ((ableI one long step start).map .int)), x22, some (.int (bk)), some (.int (ah)), some (.int (be)), some (.lst ((widR one ah be).map pairT)), some (.tup ((ptsI one).map .int)), x28, x29]) (st := st) pairT pairT (fun p => [x0, some (.ref n), some (.lst (one.map pairT)), some (.lst (oth.map pairT)), some (.lst (TI.map .int)), some (.lst ((mineI one).map .int)), some (.lst ((mineI oth).map .int)), x7, x8, x9, some (pairT p), x11, some (.lst ((TI.map (cntI one)).map .int)), x13, x14, some (.tup ((hmR one).map triT)), some (.int (many)), x17, some (.int (long)), some (.int (step)), some (.int (start)), some (.lst ((ableI one long step start).map .int)), x22, some (.int (bk)), some (.int (ah)), some (.int (be)), some (.lst ((widR one ah be).map pairT)), some (.tup ((ptsI one).map .int)), x28, x29]) (fun p => ((ptsI one).filter fun t => inR p t).isEmpty) one (it_lst rfl) (by have := ho.len; omega) fun p _ => ⟨rfl, by
    have q := lcF_run (fi := dIt (dVar 27)) (gt := dgName 7) (ft := dB (dChain aLeT aLt (dBin aIx (dVar 10) (dC (.int 0))) (dVar 7) (dBin aIx (dVar 10) (dC (.int 1))))) (fe := y_law_21) (vs := [7]) (env := [x0, some (.ref n), some (.lst (one.map pairT)), some (.lst (oth.map pairT)), some (.lst (TI.map .int)), some (.lst ((mineI one).map .int)), some (.lst ((mineI oth).map .int)), x7, x8, x9, some (pairT p), x11, some (.lst ((TI.map (cntI one)).map .int)), x13, x14, some (.tup ((hmR one).map triT)), some (.int (many)), x17, some (.int (long)), some (.int (step)), some (.int (start)), some (.lst ((ableI one long step start).map .int)), x22, some (.int (bk)), some (.int (ah)), some (.int (be)), some (.lst ((widR one ah be).map pairT)), some (.tup ((ptsI one).map .int)), x28, x29]) (st := st) D.int D.int (fun t => [x0, some (.ref n), some (.lst (one.map pairT)), some (.lst (oth.map pairT)), some (.lst (TI.map .int)), some (.lst ((mineI one).map .int)), some (.lst ((mineI oth).map .int)), some (.int (t)), x8, x9, some (pairT p), x11, some (.lst ((TI.map (cntI one)).map .int)), x13, x14, some (.tup ((hmR one).map triT)), some (.int (many)), x17, some (.int (long)), some (.int (step)), some (.int (start)), some (.lst ((ableI one long step start).map .int)), x22, some (.int (bk)), some (.int (ah)), some (.int (be)), some (.lst ((widR one ah be).map pairT)), some (.tup ((ptsI one).map .int)), x28, x29]) (fun t => inR p t) (ptsI one) (it_tup rfl) (by have := ho.len; omega) fun t _ => ⟨rfl, b_run (chain_run rfl rfl rfl (fun _ => rfl) (fun _ => rfl)), fun _ => rfl⟩
    have e := eq_lst (dats_int ((ptsI one).filter fun t => inR p t)) (by have := deps_int ((ptsI one).filter fun t => inR p t); omega) st
    rw [List.isEmpty_map] at e
    exact b_run (bin_run q nil_run e), fun _ => rfl⟩
  have e : one.filter (fun p => ((ptsI one).filter fun t => inR p t).isEmpty) = [] := by
    rw [List.filter_eq_nil_iff]
    intro p hp
    obtain ⟨x, hx, h1, h2⟩ := (choice ho).2.1 p hp
    rw [List.isEmpty_iff, List.filter_eq_nil_iff]
    intro h
    exact h x hx (inR_iff.mpr ⟨h1, h2⟩)
  rw [e] at q
  exact pass q nil_run (ne_emp st)
theorem sorted_asc {ns : List Int} (h : ns.Pairwise (· ≤ ·)) : sortI ns = ns := (sortI_eq (List.Perm.refl _) h).symm
theorem k30 (ho : Dr one) (ht : Dr oth) {long step start bk ah be : Int}  : p_law_30 [x0, some (.ref n), some (.lst (one.map pairT)), some (.lst (oth.map pairT)), some (.lst (TI.map .int)), some (.lst ((mineI one).map .int)), some (.lst ((mineI oth).map .int)), x7, x8, x9, x10, x11, some (.lst ((TI.map (cntI one)).map .int)), x13, x14, some (.tup ((hmR one).map triT)), some (.int (many)), x17, some (.int (long)), some (.int (step)), some (.int (start)), some (.lst ((ableI one long step start).map .int)), x22, some (.int (bk)), some (.int (ah)), some (.int (be)), some (.lst ((widR one ah be).map pairT)), some (.tup ((ptsI one).map .int)), x28, x29] st = .nx [x0, some (.ref n), some (.lst (one.map pairT)), some (.lst (oth.map pairT)), some (.lst (TI.map .int)), some (.lst ((mineI one).map .int)), some (.lst ((mineI oth).map .int)), x7, x8, x9, x10, x11, some (.lst ((TI.map (cntI one)).map .int)), x13, x14, some (.tup ((hmR one).map triT)), some (.int (many)), x17, some (.int (long)), some (.int (step)), some (.int (start)), some (.lst ((ableI one long step start).map .int)), x22, some (.int (bk)), some (.int (ah)), some (.int (be)), some (.lst ((widR one ah be).map pairT)), some (.tup ((ptsI one).map .int)), x28, x29] st := by
  unfold p_law_30
  have so := sorted_ints (d := .tup ((ptsI one).map .int)) (ns := ptsI one) (st := st) rfl
  rw [sorted_asc ((choice ho).1.imp fun h => by omega)] at so
  exact pass (list_run rfl) (call_run (cons1 rfl) so) (ne_ints _ st)
theorem k31 (ho : Dr one) (ht : Dr oth) {long step start bk ah be : Int} (hst : stCl st.length st = true) : p_law_31 [x0, some (.ref n), some (.lst (one.map pairT)), some (.lst (oth.map pairT)), some (.lst (TI.map .int)), some (.lst ((mineI one).map .int)), some (.lst ((mineI oth).map .int)), x7, x8, x9, x10, x11, some (.lst ((TI.map (cntI one)).map .int)), x13, x14, some (.tup ((hmR one).map triT)), some (.int (many)), x17, some (.int (long)), some (.int (step)), some (.int (start)), some (.lst ((ableI one long step start).map .int)), x22, some (.int (bk)), some (.int (ah)), some (.int (be)), some (.lst ((widR one ah be).map pairT)), some (.tup ((ptsI one).map .int)), x28, x29] st = .nx [x0, some (.ref n), some (.lst (one.map pairT)), some (.lst (oth.map pairT)), some (.lst (TI.map .int)), some (.lst ((mineI one).map .int)), some (.lst ((mineI oth).map .int)), x7, x8, x9, x10, x11, some (.lst ((TI.map (cntI one)).map .int)), x13, x14, some (.tup ((hmR one).map triT)), some (.int (many)), x17, some (.int (long)), some (.int (step)), some (.int (start)), some (.lst ((ableI one long step start).map .int)), x22, some (.int (bk)), some (.int (ah)), some (.int (be)), some (.lst ((widR one ah be).map pairT)), some (.tup ((ptsI one).map .int)), some (.tup ((apI one).map .int)), some (.int (0))] st := by
  unfold p_law_31
  exact par_run (cons2 (call_run (cons1 rfl) (e_apart (by have := ho.len; omega) ho.v hst)) rfl) rfl

theorem len_set (s : List Int) (st : Store) : bLen [setT s] st = .ok (.int ((s.length : Nat) : Int)) st := by
  show R.ok (D.int (((s.map D.int).length : Nat) : Int)) st = _
  rw [List.length_map]
theorem sets_len : ∀ {n : Nat} {s : List Int}, s ∈ setsI (upto n) → s.length ≤ n
  | 0, s, h => by
    have h : s ∈ [[]] := h
    rw [List.mem_singleton.mp h]; exact Nat.le_refl _
  | n + 1, s, h => by
    rw [upto_succ, sets_snoc, List.mem_append, List.mem_map] at h
    rcases h with h | ⟨s', h, rfl⟩
    · have := sets_len h; omega
    · have := sets_len h
      rw [List.length_append]
      show s'.length + 1 ≤ n + 1
      omega
theorem best_step {s : List Int} {b long step start bk ah be : Int} (hl : s.length ≤ 1000) (hk : ∀ k ∈ s, 0 ≤ k ∧ k < one.length) : l_law_3 [x0, some (.ref n), some (.lst (one.map pairT)), some (.lst (oth.map pairT)), some (.lst (TI.map .int)), some (.lst ((mineI one).map .int)), some (.lst ((mineI oth).map .int)), x7, x8, x9, some (setT s), x11, some (.lst ((TI.map (cntI one)).map .int)), x13, x14, some (.tup ((hmR one).map triT)), some (.int (many)), x17, some (.int (long)), some (.int (step)), some (.int (start)), some (.lst ((ableI one long step start).map .int)), x22, some (.int (bk)), some (.int (ah)), some (.int (be)), some (.lst ((widR one ah be).map pairT)), some (.tup ((ptsI one).map .int)), some (.tup ((apI one).map .int)), some (.int (b))] st = .nx [x0, some (.ref n), some (.lst (one.map pairT)), some (.lst (oth.map pairT)), some (.lst (TI.map .int)), some (.lst ((mineI one).map .int)), some (.lst ((mineI oth).map .int)), x7, x8, x9, some (setT s), x11, some (.lst ((TI.map (cntI one)).map .int)), x13, x14, some (.tup ((hmR one).map triT)), some (.int (many)), x17, some (.int (long)), some (.int (step)), some (.int (start)), some (.lst ((ableI one long step start).map .int)), x22, some (.int (bk)), some (.int (ah)), some (.int (be)), some (.lst ((widR one ah be).map pairT)), some (.tup ((ptsI one).map .int)), some (.tup ((apI one).map .int)), some (.int (bst one b s))] st := by
  have c := e_clash hk hl st
  have t := not_run (tru_run (call_run (f := f__law_clash) (fa := dCons (dVar 2) (dCons (dVar 10) (dNil))) (env := [x0, some (.ref n), some (.lst (one.map pairT)), some (.lst (oth.map pairT)), some (.lst (TI.map .int)), some (.lst ((mineI one).map .int)), some (.lst ((mineI oth).map .int)), x7, x8, x9, some (setT s), x11, some (.lst ((TI.map (cntI one)).map .int)), x13, x14, some (.tup ((hmR one).map triT)), some (.int (many)), x17, some (.int (long)), some (.int (step)), some (.int (start)), some (.lst ((ableI one long step start).map .int)), x22, some (.int (bk)), some (.int (ah)), some (.int (be)), some (.lst ((widR one ah be).map pairT)), some (.tup ((ptsI one).map .int)), some (.tup ((apI one).map .int)), some (.int (b))]) (cons2 rfl rfl) c) rfl)
  unfold l_law_3 bst
  cases q : clashI one s with
  | true =>
    rw [q] at t
    exact asg_run (ife_f t rfl) rfl
  | false =>
    rw [q] at t
    exact asg_run (ife_t t (call_run (cons2 rfl (call_run (cons1 rfl) (len_set s st))) (max_run _ _ _))) rfl
theorem listR1_run {f : DE} {env : G.Env} {j : Int} {ds : List D} (h1 : f env st = .ok (.int j) st) (h3 : rng3 (.int 0) (.int j) (.int 1) st = .ok ds st) : dListR1 false f env st = .ok (.lst ds) st := by
  unfold dListR1
  rw [h1, R.bind_ok, h3, R.bind_ok]
  rfl
theorem upto_run {m : Nat} (h : m ≤ 5) (st : Store) : rng3 (.int 0) (.int ((m : Nat) : Int)) (.int 1) st = .ok ((upto m).map .int) st := by
  have : m = 0 ∨ m = 1 ∨ m = 2 ∨ m = 3 ∨ m = 4 ∨ m = 5 := by omega
  rcases this with rfl | rfl | rfl | rfl | rfl | rfl <;> rfl
theorem k32 (ho : Dr one) (ht : Dr oth) {long step start bk ah be : Int}  : ∃ x, p_law_32 [x0, some (.ref n), some (.lst (one.map pairT)), some (.lst (oth.map pairT)), some (.lst (TI.map .int)), some (.lst ((mineI one).map .int)), some (.lst ((mineI oth).map .int)), x7, x8, x9, x10, x11, some (.lst ((TI.map (cntI one)).map .int)), x13, x14, some (.tup ((hmR one).map triT)), some (.int (many)), x17, some (.int (long)), some (.int (step)), some (.int (start)), some (.lst ((ableI one long step start).map .int)), x22, some (.int (bk)), some (.int (ah)), some (.int (be)), some (.lst ((widR one ah be).map pairT)), some (.tup ((ptsI one).map .int)), some (.tup ((apI one).map .int)), some (.int (0))] st = .nx [x0, some (.ref n), some (.lst (one.map pairT)), some (.lst (oth.map pairT)), some (.lst (TI.map .int)), some (.lst ((mineI one).map .int)), some (.lst ((mineI oth).map .int)), x7, x8, x9, x, x11, some (.lst ((TI.map (cntI one)).map .int)), x13, x14, some (.tup ((hmR one).map triT)), some (.int (many)), x17, some (.int (long)), some (.int (step)), some (.int (start)), some (.lst ((ableI one long step start).map .int)), x22, some (.int (bk)), some (.int (ah)), some (.int (be)), some (.lst ((widR one ah be).map pairT)), some (.tup ((ptsI one).map .int)), some (.tup ((apI one).map .int)), some (.int (bestI one (setsI (upto one.length))))] st := by
  obtain ⟨e, h, _⟩ := for_fold (β := Int) (ε := Option D) (gt := dgName 10) (fb := l_law_3) setT (fun b e => [x0, some (.ref n), some (.lst (one.map pairT)), some (.lst (oth.map pairT)), some (.lst (TI.map .int)), some (.lst ((mineI one).map .int)), some (.lst ((mineI oth).map .int)), x7, x8, x9, e, x11, some (.lst ((TI.map (cntI one)).map .int)), x13, x14, some (.tup ((hmR one).map triT)), some (.int (many)), x17, some (.int (long)), some (.int (step)), some (.int (start)), some (.lst ((ableI one long step start).map .int)), x22, some (.int (bk)), some (.int (ah)), some (.int (be)), some (.lst ((widR one ah be).map pairT)), some (.tup ((ptsI one).map .int)), some (.tup ((apI one).map .int)), some (.int (b))]) (fun _ => st) (bst one) (fun _ _ => True) (setsI (upto one.length)) (fun s hm b e n _ =>
    ⟨_, some (setT s), rfl, .inl (best_step (by have := sets_len hm; have := ho.len; omega) (sets_mem.mp hm).2), trivial⟩) 0 x10 0 trivial
  refine ⟨e, ?_⟩
  unfold p_law_32
  exact for_run (it_lst (call_run (cons1 (listR1_run (call_run (cons1 rfl) (len_run _ _ st)) (upto_run ho.len st))) (e_sets ho.len st))) h
theorem k33 (ho : Dr one) (ht : Dr oth) {long step start bk ah be : Int}  : p_law_33 [x0, some (.ref n), some (.lst (one.map pairT)), some (.lst (oth.map pairT)), some (.lst (TI.map .int)), some (.lst ((mineI one).map .int)), some (.lst ((mineI oth).map .int)), x7, x8, x9, x10, x11, some (.lst ((TI.map (cntI one)).map .int)), x13, x14, some (.tup ((hmR one).map triT)), some (.int (many)), x17, some (.int (long)), some (.int (step)), some (.int (start)), some (.lst ((ableI one long step start).map .int)), x22, some (.int (bk)), some (.int (ah)), some (.int (be)), some (.lst ((widR one ah be).map pairT)), some (.tup ((ptsI one).map .int)), some (.tup ((apI one).map .int)), some (.int (bestI one (setsI (upto one.length))))] st = .nx [x0, some (.ref n), some (.lst (one.map pairT)), some (.lst (oth.map pairT)), some (.lst (TI.map .int)), some (.lst ((mineI one).map .int)), some (.lst ((mineI oth).map .int)), x7, x8, x9, x10, x11, some (.lst ((TI.map (cntI one)).map .int)), x13, x14, some (.tup ((hmR one).map triT)), some (.int (many)), x17, some (.int (long)), some (.int (step)), some (.int (start)), some (.lst ((ableI one long step start).map .int)), x22, some (.int (bk)), some (.int (ah)), some (.int (be)), some (.lst ((widR one ah be).map pairT)), some (.tup ((ptsI one).map .int)), some (.tup ((apI one).map .int)), some (.int (bestI one (setsI (upto one.length))))] st := by
  unfold p_law_33
  obtain ⟨c1, c2, c3, c4, c5⟩ := choice ho
  have al := ap_len one
  have so := sorted_ints (d := .tup ((apI one).map .int)) (ns := apI one) (st := st) rfl
  rw [sorted_asc (apart_ok one).2] at so
  have cl := e_clash (ap_mem one) (by have := ho.len; omega) st
  rw [c3] at cl
  have l1 := len_set (apI one) st
  have l2 := len_set (ptsI one) st
  rw [c4] at l1
  rw [c5] at l2
  refine if_f (or_run (x := false) (y := false) (b_run (bin_run (call_run (cons1 rfl) l1) rfl (ne_i _ st))) fun _ => ?_) rfl
  refine or_run (x := false) (y := false) (tru_run (call_run (cons2 rfl rfl) cl) rfl) fun _ => ?_
  refine or_run (x := false) (y := false) (b_run (bin_run (call_run (cons1 rfl) l2) rfl (ne_i _ st))) fun _ => ?_
  exact b_run (bin_run (list_run rfl) (call_run (cons1 rfl) so) (ne_ints _ st))
end
end K04

namespace K04
open PySem G
section
variable {x0 x1 x2 x3 x4 x5 x6 x7 x8 x9 x10 x11 x12 x13 x14 x15 x16 x17 x18 x19 x20 x21 x22 x23 x24 x25 x26 x27 x28 x29 : Option D} {one oth : List Rw} {n : Nat} {st : Store}
abbrev dk (n : Nat) (a b c : Int) (st : Store) : Store := st.set n (.lst [.int a, .int b, .int c])
theorem dk_dk (n : Nat) (a b c a' b' c' : Int) (st : Store) : dk n a' b' c' (dk n a b c st) = dk n a' b' c' st := List.set_set ..
theorem dk_at {a b c a' b' c' : Int} (h : lstAt st n = some [.int a, .int b, .int c]) : lstAt (dk n a' b' c' st) n = some [.int a', .int b', .int c'] := lstAt_set h
theorem k1 {a b c : Int} (hs : lstAt st n = some [.int a, .int b, .int c]) : ∃ (one oth : List Rw) (a' b' c' : Int), Dr one ∧ Dr oth ∧ p_law_1 [x0, some (.ref n), x2, x3, x4, x5, x6, x7, x8, x9, x10, x11, x12, x13, x14, x15, x16, x17, x18, x19, x20, x21, x22, x23, x24, x25, x26, x27, x28, x29] st = .nx [x0, some (.ref n), some (.lst (one.map pairT)), some (.lst (oth.map pairT)), x4, x5, x6, x7, x8, x9, x10, x11, x12, x13, x14, x15, x16, x17, x18, x19, x20, x21, x22, x23, x24, x25, x26, x27, x28, x29] (dk n a' b' c' st) := by
  obtain ⟨one, a1, b1, c1, l1, v1, w1, s1⟩ := e_rows hs
  obtain ⟨oth, a2, b2, c2, l2, v2, w2, s2⟩ := e_rows (dk_at (a' := a1) (b' := b1) (c' := c1) hs)
  refine ⟨one, oth, a2, b2, c2, ⟨l1, v1, w1⟩, ⟨l2, v2, w2⟩, ?_⟩
  rw [show List.set (dk n a1 b1 c1 st) n (SO.lst [.int a2, .int b2, .int c2]) = dk n a2 b2 c2 st from dk_dk ..] at s2
  unfold p_law_1
  exact asg_run (tup2 (call_run (cons1 rfl) s1) (call_run (cons1 rfl) s2)) rfl
theorem rollK {a b c : Int} (many : Int) (hs : lstAt st n = some [.int a, .int b, .int c]) (h1 : 1 ≤ many) (h2 : many ≤ 100000000) : ∃ r a' b' c' : Int, 0 ≤ r ∧ r < many ∧ ∀ env : G.Env, env[1]? = some (some (.ref n)) → dCall f__law_roll (dCons (dVar 1) (dCons (dC (.int many)) (dNil))) env st = .ok (.int r) (dk n a' b' c' st) := by
  obtain ⟨r, a1, b1, c1, p, q, s⟩ := e_roll many hs h1 h2
  exact ⟨r, a1, b1, c1, p, q, fun env he => roll_run he s⟩
theorem k9 {a b c : Int} (hs : lstAt st n = some [.int a, .int b, .int c]) : ∃ r a' b' c' : Int, (0 ≤ r ∧ r < 20) ∧ p_law_9 [x0, some (.ref n), x2, x3, x4, x5, x6, x7, x8, x9, x10, x11, x12, x13, x14, x15, x16, x17, x18, x19, x20, x21, x22, x23, x24, x25, x26, x27, x28, x29] st = .nx [x0, some (.ref n), x2, x3, x4, x5, x6, x7, some (.int (r)), x9, x10, x11, x12, x13, x14, x15, x16, x17, x18, x19, x20, x21, x22, x23, x24, x25, x26, x27, x28, x29] (dk n a' b' c' st) := by
  obtain ⟨r, a1, b1, c1, p, q, s⟩ := rollK 20 hs (by decide) (by decide)
  exact ⟨r, a1, b1, c1, ⟨p, q⟩, by unfold p_law_9; exact asg_run (s _ rfl) rfl⟩
theorem k10 {a b c s : Int} (hs : lstAt st n = some [.int a, .int b, .int c]) (h : 0 ≤ s ∧ s < 20) : ∃ e a' b' c' : Int, (s < e ∧ e < 40) ∧ p_law_10 [x0, some (.ref n), x2, x3, x4, x5, x6, x7, some (.int (s)), x9, x10, x11, x12, x13, x14, x15, x16, x17, x18, x19, x20, x21, x22, x23, x24, x25, x26, x27, x28, x29] st = .nx [x0, some (.ref n), x2, x3, x4, x5, x6, x7, some (.int (s)), some (.int (e)), x10, x11, x12, x13, x14, x15, x16, x17, x18, x19, x20, x21, x22, x23, x24, x25, x26, x27, x28, x29] (dk n a' b' c' st) := by
  obtain ⟨r, a1, b1, c1, p, q, s1⟩ := rollK 15 hs (by decide) (by decide)
  exact ⟨s + 1 + r, a1, b1, c1, ⟨by omega, by omega⟩, by unfold p_law_10; exact asg_run (bin_run (x := .int (s + 1)) rfl (s1 _ rfl) rfl) rfl⟩
theorem k15 {a b c : Int} (ho : Dr one) (hst : stCl st.length st = true) (hs : lstAt st n = some [.int a, .int b, .int c]) : ∃ many a' b' c' : Int, 1 ≤ many ∧ p_law_15 [x0, some (.ref n), some (.lst (one.map pairT)), x3, x4, x5, x6, x7, x8, x9, x10, x11, x12, x13, x14, x15, x16, x17, x18, x19, x20, x21, x22, x23, x24, x25, x26, x27, x28, x29] st = .nx [x0, some (.ref n), some (.lst (one.map pairT)), x3, x4, x5, x6, x7, x8, x9, x10, x11, x12, x13, x14, some (.tup ((hmR one).map triT)), some (.int (many)), x17, x18, x19, x20, x21, x22, x23, x24, x25, x26, x27, x28, x29] (dk n a' b' c' st) := by
  obtain ⟨r, a1, b1, c1, p, q, s1⟩ := rollK 3 hs (by decide) (by decide)
  refine ⟨1 + r, a1, b1, c1, by omega, ?_⟩
  unfold p_law_15
  exact asg_run (tup2 (call_run (cons1 rfl) (e_hm (d := .lst (one.map pairT)) (.inl rfl) (by have := ho.len; omega) ho.v hst)) (bin_run rfl (s1 _ rfl) rfl)) rfl
theorem k21 {a b c : Int} (hs : lstAt st n = some [.int a, .int b, .int c]) : ∃ long step start a' b' c' : Int, ((1 ≤ long ∧ long ≤ 10) ∧ (1 ≤ step ∧ step ≤ 10) ∧ (0 ≤ start ∧ start ≤ 20)) ∧ p_law_21 [x0, some (.ref n), x2, x3, x4, x5, x6, x7, x8, x9, x10, x11, x12, x13, x14, x15, x16, x17, x18, x19, x20, x21, x22, x23, x24, x25, x26, x27, x28, x29] st = .nx [x0, some (.ref n), x2, x3, x4, x5, x6, x7, x8, x9, x10, x11, x12, x13, x14, x15, x16, x17, some (.int (long)), some (.int (step)), some (.int (start)), x21, x22, x23, x24, x25, x26, x27, x28, x29] (dk n a' b' c' st) := by
  obtain ⟨r1, a1, b1, c1, p1, q1, s1⟩ := rollK 5 hs (by decide) (by decide)
  obtain ⟨r2, a2, b2, c2, p2, q2, s2⟩ := rollK 6 (dk_at (a' := a1) (b' := b1) (c' := c1) hs) (by decide) (by decide)
  obtain ⟨r3, a3, b3, c3, p3, q3, s3⟩ := rollK 20 (dk_at (a' := a2) (b' := b2) (c' := c2) hs) (by decide) (by decide)
  rw [dk_dk] at s2
  rw [dk_dk] at s3
  refine ⟨1 + r1, 1 + r2, r3, a3, b3, c3, by omega, ?_⟩
  unfold p_law_21
  exact asg_run (tup_run (cons_run (bin_run rfl (s1 _ rfl) rfl) (cons2 (bin_run rfl (s2 _ rfl) rfl) (s3 _ rfl))) (by show 3 ≤ _; omega)) rfl
theorem k24 {a b c : Int} (hs : lstAt st n = some [.int a, .int b, .int c]) : ∃ bk ah be a' b' c' : Int, ((-3 ≤ ah ∧ ah ≤ 3) ∧ (-3 ≤ be ∧ be ≤ 3)) ∧ p_law_24 [x0, some (.ref n), x2, x3, x4, x5, x6, x7, x8, x9, x10, x11, x12, x13, x14, x15, x16, x17, x18, x19, x20, x21, x22, x23, x24, x25, x26, x27, x28, x29] st = .nx [x0, some (.ref n), x2, x3, x4, x5, x6, x7, x8, x9, x10, x11, x12, x13, x14, x15, x16, x17, x18, x19, x20, x21, x22, some (.int (bk)), some (.int (ah)), some (.int (be)), x26, x27, x28, x29] (dk n a' b' c' st) := by
  obtain ⟨r1, a1, b1, c1, p1, q1, s1⟩ := rollK 9 hs (by decide) (by decide)
  obtain ⟨r2, a2, b2, c2, p2, q2, s2⟩ := rollK 7 (dk_at (a' := a1) (b' := b1) (c' := c1) hs) (by decide) (by decide)
  obtain ⟨r3, a3, b3, c3, p3, q3, s3⟩ := rollK 7 (dk_at (a' := a2) (b' := b2) (c' := c2) hs) (by decide) (by decide)
  rw [dk_dk] at s2
  rw [dk_dk] at s3
  refine ⟨r1 - 4, r2 - 3, r3 - 3, a3, b3, c3, by omega, ?_⟩
  unfold p_law_24
  exact asg_run (tup_run (cons_run (bin_run (s1 _ rfl) rfl rfl) (cons2 (bin_run (s2 _ rfl) rfl rfl) (bin_run (s3 _ rfl) rfl rfl))) (by show 3 ≤ _; omega)) rfl
end
/-- one turn of the law -/
theorem turn {st : Store} {n : Nat} {a b c : Int} (x0 : Option D) (hst : ∀ a b c : Int, stCl (dk n a b c st).length (dk n a b c st) = true) (hs : lstAt st n = some [.int a, .int b, .int c]) :
    ∃ env a' b' c', l_law_4 ([x0, some (.ref n)] ++ List.replicate 28 none) st = .nx env (dk n a' b' c' st) := by
  show ∃ env a' b' c', l_law_4 [x0, some (.ref n), none, none, none, none, none, none, none, none, none, none, none, none, none, none, none, none, none, none, none, none, none, none, none, none, none, none, none, none] st = .nx env (dk n a' b' c' st)
  obtain ⟨one, oth, a1, b1, c1, ho, ht, e1⟩ := k1 (x0 := x0) (x2 := none) (x3 := none) (x4 := none) (x5 := none) (x6 := none) (x7 := none) (x8 := none) (x9 := none) (x10 := none) (x11 := none) (x12 := none) (x13 := none) (x14 := none) (x15 := none) (x16 := none) (x17 := none) (x18 := none) (x19 := none) (x20 := none) (x21 := none) (x22 := none) (x23 := none) (x24 := none) (x25 := none) (x26 := none) (x27 := none) (x28 := none) (x29 := none) hs
  have t1 := dk_at (a' := a1) (b' := b1) (c' := c1) hs
  have h1 := hst a1 b1 c1
  obtain ⟨s, a2, b2, c2, hs2, e9⟩ := k9 (x0 := x0) (x2 := some (.lst (one.map pairT))) (x3 := some (.lst (oth.map pairT))) (x4 := some (.lst (TI.map .int))) (x5 := some (.lst ((mineI one).map .int))) (x6 := some (.lst ((mineI oth).map .int))) (x7 := none) (x8 := none) (x9 := none) (x10 := none) (x11 := none) (x12 := none) (x13 := none) (x14 := none) (x15 := none) (x16 := none) (x17 := none) (x18 := none) (x19 := none) (x20 := none) (x21 := none) (x22 := none) (x23 := none) (x24 := none) (x25 := none) (x26 := none) (x27 := none) (x28 := none) (x29 := none) t1
  have t2 := dk_at (a' := a2) (b' := b2) (c' := c2) t1
  obtain ⟨e, a3, b3, c3, he3, e10⟩ := k10 (x0 := x0) (x2 := some (.lst (one.map pairT))) (x3 := some (.lst (oth.map pairT))) (x4 := some (.lst (TI.map .int))) (x5 := some (.lst ((mineI one).map .int))) (x6 := some (.lst ((mineI oth).map .int))) (x7 := none) (x10 := none) (x11 := none) (x12 := none) (x13 := none) (x14 := none) (x15 := none) (x16 := none) (x17 := none) (x18 := none) (x19 := none) (x20 := none) (x21 := none) (x22 := none) (x23 := none) (x24 := none) (x25 := none) (x26 := none) (x27 := none) (x28 := none) (x29 := none) t2 hs2
  have t3 := dk_at (a' := a3) (b' := b3) (c' := c3) t2
  rw [dk_dk] at e9 e10 t2 t3
  rw [dk_dk] at e10 t3
  have h3 := hst a3 b3 c3
  obtain ⟨x10, x11, e13⟩ := k13 (x0 := x0) (x7 := none) (x10 := none) (x11 := none) (x12 := none) (x13 := none) (x14 := none) (x15 := none) (x16 := none) (x17 := none) (x18 := none) (x19 := none) (x20 := none) (x21 := none) (x22 := none) (x23 := none) (x24 := none) (x25 := none) (x26 := none) (x27 := none) (x28 := none) (x29 := none) (x8 := some (.int s)) (x9 := some (.int e)) (n := n) (st := dk n a3 b3 c3 st) ho ht
  obtain ⟨many, a4, b4, c4, hm, e15⟩ := k15 (x0 := x0) (x3 := some (.lst (oth.map pairT))) (x4 := some (.lst (TI.map .int))) (x5 := some (.lst ((mineI one).map .int))) (x6 := some (.lst ((mineI oth).map .int))) (x8 := some (.int s)) (x9 := some (.int e)) (x10 := x10) (x11 := x11) (x12 := some (.lst ((TI.map (cntI one)).map .int))) (x7 := none) (x13 := none) (x14 := none) (x15 := none) (x16 := none) (x17 := none) (x18 := none) (x19 := none) (x20 := none) (x21 := none) (x22 := none) (x23 := none) (x24 := none) (x25 := none) (x26 := none) (x27 := none) (x28 := none) (x29 := none) ho h3 t3
  have t4 := dk_at (a' := a4) (b' := b4) (c' := c4) t3
  rw [dk_dk] at e15 t4
  have h4 := hst a4 b4 c4
  obtain ⟨long, step', start', a5, b5, c5, ⟨hl, hp, hb⟩, e21⟩ := k21 (x0 := x0) (x2 := some (.lst (one.map pairT))) (x3 := some (.lst (oth.map pairT))) (x4 := some (.lst (TI.map .int))) (x5 := some (.lst ((mineI one).map .int))) (x6 := some (.lst ((mineI oth).map .int))) (x8 := some (.int s)) (x9 := some (.int e)) (x10 := x10) (x11 := x11) (x12 := some (.lst ((TI.map (cntI one)).map .int))) (x15 := some (.tup ((hmR one).map triT))) (x16 := some (.int many)) (x7 := none) (x13 := none) (x14 := none) (x17 := none) (x18 := none) (x19 := none) (x20 := none) (x21 := none) (x22 := none) (x23 := none) (x24 := none) (x25 := none) (x26 := none) (x27 := none) (x28 := none) (x29 := none) t4
  have t5 := dk_at (a' := a5) (b' := b5) (c' := c5) t4
  rw [dk_dk] at e21 t5
  have h5 := hst a5 b5 c5
  obtain ⟨bk, ah, be, a6, b6, c6, ⟨hah, hbe⟩, e24⟩ := k24 (x0 := x0) (x2 := some (.lst (one.map pairT))) (x3 := some (.lst (oth.map pairT))) (x4 := some (.lst (TI.map .int))) (x5 := some (.lst ((mineI one).map .int))) (x6 := some (.lst ((mineI oth).map .int))) (x8 := some (.int s)) (x9 := some (.int e)) (x10 := x10) (x11 := x11) (x12 := some (.lst ((TI.map (cntI one)).map .int))) (x15 := some (.tup ((hmR one).map triT))) (x16 := some (.int many)) (x18 := some (.int long)) (x19 := some (.int step')) (x20 := some (.int start')) (x21 := some (.lst ((ableI one long step' start').map .int))) (x7 := none) (x13 := none) (x14 := none) (x17 := none) (x22 := none) (x23 := none) (x24 := none) (x25 := none) (x26 := none) (x27 := none) (x28 := none) (x29 := none) t5
  have t6 := dk_at (a' := a6) (b' := b6) (c' := c6) t5
  rw [dk_dk] at e24 t6
  have h6 := hst a6 b6 c6
  obtain ⟨y10, e32⟩ := k32 (x0 := x0) (x7 := none) (x8 := some (.int s)) (x9 := some (.int e)) (x10 := x10) (x11 := x11) (x13 := none) (x14 := none) (x17 := none) (x22 := none) (many := many) (n := n) (st := dk n a6 b6 c6 st) (oth := oth) (long := long) (step := step') (start := start') (bk := bk) (ah := ah) (be := be) ho ht
  refine ⟨[x0, some (.ref n), some (.lst (one.map pairT)), some (.lst (oth.map pairT)), some (.lst (TI.map .int)), some (.lst ((mineI one).map .int)), some (.lst ((mineI oth).map .int)), none, some (.int s), some (.int e), y10, x11, some (.lst ((TI.map (cntI one)).map .int)), none, none, some (.tup ((hmR one).map triT)), some (.int many), none, some (.int long), some (.int step'), some (.int start'), some (.lst ((ableI one long step' start').map .int)), none, some (.int bk), some (.int ah), some (.int be), some (.lst ((widR one ah be).map pairT)), some (.tup ((ptsI one).map .int)), some (.tup ((apI one).map .int)), some (.int (bestI one (setsI (upto one.length))))], a6, b6, c6, ?_⟩
  unfold l_law_4
  refine seq_run e1 (seq_run k2 (seq_run (k3 ho ht) (seq_run (k4 ho ht h1) (seq_run (k5 ho ht h1) (seq_run (k6 ho ht h1) (seq_run (k7 ho ht h1) (seq_run (k8 ho ht h1) ?_)))))))
  refine seq_run e9 (seq_run e10 (seq_run (k11 ho ht hs2 he3 h3) (seq_run (k12 ho ht) (seq_run e13 (seq_run (k14 ho ht) (seq_run e15 ?_))))))
  refine seq_run (k16 ho ht) (seq_run (k17 ho ht) (seq_run (k18 ho ht) (seq_run (k19 ho ht h4) (seq_run (k20 ho ht hm h4) (seq_run e21 ?_)))))
  refine seq_run (k22 ho ht hl hp hb) (seq_run (k23 ho ht hl hp hb h5) (seq_run e24 (seq_run (k25 ho ht (long := long) (step := step') (start := start') (bk := bk)) (seq_run (k26 ho ht (long := long) (step := step') (start := start')) (seq_run (k27 ho ht hah hbe h6 (long := long) (step := step') (start := start') (bk := bk)) ?_)))))
  refine seq_run (k28 ho ht h6 (long := long) (step := step') (start := start') (bk := bk)) (seq_run (k29 ho ht (long := long) (step := step') (start := start') (bk := bk)) (seq_run (k30 ho ht (long := long) (step := step') (start := start') (bk := bk)) (seq_run (k31 ho ht h6 (long := long) (step := step') (start := start') (bk := bk)) (seq_run e32 (k33 ho ht (long := long) (step := step') (start := start') (bk := bk))))))
theorem law_true : ∀ ns : List Int, ns.length ≤ 63 → ∃ st, f_law [.scr ns] [] = .ok (.bl true) st := by
  intro ns _
  obtain ⟨a, b, c, e⟩ := e_rounds ns
  obtain ⟨env, a1, b1, c1, t⟩ := turn (st := [.lst [.int a, .int b, .int c]]) (n := 0) (a := a) (b := b) (c := c) (some (.scr ns)) (fun _ _ _ => rfl) rfl
  unfold f_law b_law runB
  refine ⟨[.lst [.int a1, .int b1, .int c1]], ?_⟩
  simp [List.replicate] at t
  simp [aLeT, dSeq, dIfS, dNot, dB, dChain, dC, dVar, dRet, dRetN, dNext, dAndV, dOrV, dNotV, dAnd, dOr, dIf, dTru, truD, dBin, dCons, dNil, dTup, dLst, mkL, dCall, dAsg, dAug, dPar, dgName, dgTup, dgCons, dgNil, dDrop, R.bind, R.s, R.b, aLe, aLt, aGt, aGe, aSub, aAdd, aMul, aFdiv, aMod, aEq, aNe, aIsN, aNotN, D.isNon, aAddI, aIx, L2.atI, L2.ixN, beqi, seqA, seqL, seqR, okEq, norm, D.isSc, D.isStr, D.dat, D.dats, D.dep, D.deps, D.eqv, D.eqvs, dRaise, dNeg, bSum, bAbs, bInt, bMax2, bMin2, bLen, intsD, dSl, aSl, dP, dNoP, okMul, fm, fd, dFor, dIt, gdOf, e, forD, gdOk, t, loopK, plain, List.replicate]
end K04

namespace K04
open PySem G
/-! the end -/
def gaT : List (Str × Addr) := [("SpanError", 37)]
def cpT : List (Str × (Addr × Addr)) := [("check_spans", (46, 42)), ("fewest_points", (150, 146)), ("holds_at", (95, 91)), ("length_of", (88, 84)), ("most_apart", (157, 153)), ("moved_by", (138, 134)), ("_law_plain", (222, 220))]
def lamT (n : Nat) : Option LamI := match n with
  | 0 => some lam_0
  | 1 => some lam_1
  | 2 => some lam_2
  | 3 => some lam_3
  | 4 => some lam_4
  | 5 => some lam_5
  | 6 => some lam_6
  | 7 => some lam_7
  | 8 => some lam_8
  | 9 => some lam_9
  | 10 => some lam_10
  | 11 => some lam_11
  | 12 => some lam_12
  | 13 => some lam_13
  | 14 => some lam_14
  | 15 => some lam_15
  | 16 => some lam_16
  | 17 => some lam_17
  | 18 => some lam_18
  | _ => none
def gOf (K : PySem.W.Frag) : GC := ⟨K, fun x => (gaT.lookup x).getD 0, [(42, (("check_spans" : Str) ++ ".<locals>.") ++ "<genexpr>"), (146, (("fewest_points" : Str) ++ ".<locals>.") ++ "<genexpr>"), (91, (("holds_at" : Str) ++ ".<locals>.") ++ "<genexpr>"), (84, (("length_of" : Str) ++ ".<locals>.") ++ "<genexpr>"), (153, (("most_apart" : Str) ++ ".<locals>.") ++ "<genexpr>"), (134, (("moved_by" : Str) ++ ".<locals>.") ++ "<genexpr>"), (220, (("_law_plain" : Str) ++ ".<locals>.") ++ "<lambda>")], lamT, fun x => (cpT.lookup x).getD (0, 0)⟩
abbrev gX {K : PySem.W.Frag} {h : Heap} (_ : K.In h) : GC := gOf K
theorem ga_SpanError (K : PySem.W.Frag) : (gOf K).ga "SpanError" = 37 := by show (gaT.lookup ("SpanError" : Str)).getD 0 = 37; decide +kernel
theorem cp_check_spans (K : PySem.W.Frag) : (gOf K).cp "check_spans" = (46, 42) := by show (cpT.lookup ("check_spans" : Str)).getD (0, 0) = (46, 42); decide +kernel
theorem cp_fewest_points (K : PySem.W.Frag) : (gOf K).cp "fewest_points" = (150, 146) := by show (cpT.lookup ("fewest_points" : Str)).getD (0, 0) = (150, 146); decide +kernel
theorem cp_holds_at (K : PySem.W.Frag) : (gOf K).cp "holds_at" = (95, 91) := by show (cpT.lookup ("holds_at" : Str)).getD (0, 0) = (95, 91); decide +kernel
theorem cp_length_of (K : PySem.W.Frag) : (gOf K).cp "length_of" = (88, 84) := by show (cpT.lookup ("length_of" : Str)).getD (0, 0) = (88, 84); decide +kernel
theorem cp_most_apart (K : PySem.W.Frag) : (gOf K).cp "most_apart" = (157, 153) := by show (cpT.lookup ("most_apart" : Str)).getD (0, 0) = (157, 153); decide +kernel
theorem cp_moved_by (K : PySem.W.Frag) : (gOf K).cp "moved_by" = (138, 134) := by show (cpT.lookup ("moved_by" : Str)).getD (0, 0) = (138, 134); decide +kernel
theorem cp__law_plain (K : PySem.W.Frag) : (gOf K).cp "_law_plain" = (222, 220) := by show (cpT.lookup ("_law_plain" : Str)).getD (0, 0) = (222, 220); decide +kernel
theorem law_fin {K : PySem.W.Frag} {h : Heap} {w : World} {mg : PySem.Str → Option Value} {fa : Addr} (KX : K.In h) (G₀ : h.Ns mainGlobals mg) (hmg : mg "law" = some (.ref fa)) (T : Txt (gX KX) mg) {oc kV doc pm ct : Value} {od an : Option Addr} {osl : Array (Option Value)}
    (a : PySem.W.nsIn K mainGlobals "law" = some (some (.ref 228))) (lk : K.lookup 228 = some ⟨oc, od, .func (PySem.W.fnOf "law" "law" (L2.defArgs s_law) (L2.defBody s_law) (L2.defScope s_law) .none kV doc pm an (.ref 227) ct), osl⟩) (hcd : PySem.W.codeIn K (.ref 227) "law" = true)
    (hT : ∀ p ∈ ([(46, 42), (150, 146), (95, 91), (88, 84), (157, 153), (138, 134), (222, 220)] : List (Addr × Addr)), h.get? p.2 = some { cls := .none, data := .fields #[] }) (nT : ∀ p ∈ ([(46, 42), (150, 146), (95, 91), (88, 84), (157, 153), (138, 134), (222, 220)] : List (Addr × Addr)), K.lookup p.2 = none) (C : ∀ p ∈ ([(46, 42), (150, 146), (95, 91), (88, 84), (157, 153), (138, 134), (222, 220)] : List (Addr × Addr)), PySem.W.CodeHd h p.1 p.2) :
    LamX.LawAtS PySem.Challenge.rw_clockstack_k04_stretches_of_time w K (L2.CX PySem.Challenge.rw_clockstack_k04_stretches_of_time.prog w) 17 63 "script" mg fa h := by
  refine law_end (fL := 228) (cL := 227) (s := s_law) (x := "script") (g := gX KX) (f := f_law) [(46, 42), (150, 146), (95, 91), (88, 84), (157, 153), (138, 134), (222, 220)] KX G₀ rfl hmg a lk hcd hT nT C (fun us hl => match us, hl with | [_], _ => rfl) ?hg law_true ?hF
  case hg =>
    intro p hp
    simp only [gOf, List.mem_cons, List.not_mem_nil, or_false] at hp
    rcases hp with rfl | rfl | rfl | rfl | rfl | rfl | rfl
    · exact ⟨(46, 42), by simp, rfl⟩
    · exact ⟨(150, 146), by simp, rfl⟩
    · exact ⟨(95, 91), by simp, rfl⟩
    · exact ⟨(88, 84), by simp, rfl⟩
    · exact ⟨(157, 153), by simp, rfl⟩
    · exact ⟨(138, 134), by simp, rfl⟩
    · exact ⟨(222, 220), by simp, rfl⟩
  case hF =>
    intro base KB GB TB lk hcd
    have B : Tbs (gX KX) mg base := { t_check_spans := tabB_cast (cp_check_spans _) (TB (46, 42) (by simp)), t_fewest_points := tabB_cast (cp_fewest_points _) (TB (150, 146) (by simp)), t_holds_at := tabB_cast (cp_holds_at _) (TB (95, 91) (by simp)), t_length_of := tabB_cast (cp_length_of _) (TB (88, 84) (by simp)), t_most_apart := tabB_cast (cp_most_apart _) (TB (157, 153) (by simp)), t_moved_by := tabB_cast (cp_moved_by _) (TB (138, 134) (by simp)), t__law_plain := tabB_cast (cp__law_plain _) (TB (222, 220) (by simp)) }
    exact ok_law T B lk hcd
end K04
open PySem PySem.W PyProof.Rows
open G K04 in
set_option maxRecDepth 100000 in
set_option maxHeartbeats 0 in
theorem PySem.Challenge.cw_clockstack_k04_stretches_of_time_holds : PySem.Challenge.rw_clockstack_k04_stretches_of_time.Holds := by
  w_on; o_law
  k_head
  (case hw => w_witness2)
  k_fill
  refine G.walk_top (l := PySem.Challenge.rw_clockstack_k04_stretches_of_time) (n := 63) (k := 17) (x := "script") (CX := fun w => L2.CX (PySem.Challenge.rw_clockstack_k04_stretches_of_time).prog w) rfl (by decide) rfl ⟨rfl, by decide, by decide⟩ (fun w h Y => km_in_of Y) ?F ?C
  case C =>
    intro w H s e s' q
    obtain ⟨_, _, _, _, _, _, _, _, _, _, _, _, q⟩ := q
    exact q
  case F =>
    intro w s₀ mg mb fa h Y KX Gr hmg
    have G₀ := Gr.T.g
    have e_SpanError : ExD (gX KX) mg "SpanError" := by
      refine' exD_mk (C := 37) KX G₀ rfl (ga_SpanError _) ?a ?b ?c ?d ?e
      (case a => k_is)
      (case b => k_exc)
      (case c => k_is)
      (case d => k_is)
      (case e => k_is)
    have g_WAYS_TO_LIE : Glob (gX KX) mg "WAYS_TO_LIE" c_WAYS_TO_LIE := by
      refine' glob_mk KX G₀ rfl ?a ?b
      (case a => k_is)
      (case b => kernel_rfl)
    have n_abs : mg "abs" = none := by
      refine' none_mk KX G₀ ?a
      (case a => k_is)
    have n_any : mg "any" = none := by
      refine' none_mk KX G₀ ?a
      (case a => k_is)
    have n_enumerate : mg "enumerate" = none := by
      refine' none_mk KX G₀ ?a
      (case a => k_is)
    have n_int : mg "int" = none := by
      refine' none_mk KX G₀ ?a
      (case a => k_is)
    have n_len : mg "len" = none := by
      refine' none_mk KX G₀ ?a
      (case a => k_is)
    have n_list : mg "list" = none := by
      refine' none_mk KX G₀ ?a
      (case a => k_is)
    have n_max : mg "max" = none := by
      refine' none_mk KX G₀ ?a
      (case a => k_is)
    have n_min : mg "min" = none := by
      refine' none_mk KX G₀ ?a
      (case a => k_is)
    have n_range : mg "range" = none := by
      refine' none_mk KX G₀ ?a
      (case a => k_is)
    have n_sorted : mg "sorted" = none := by
      refine' none_mk KX G₀ ?a
      (case a => k_is)
    have n_sum : mg "sum" = none := by
      refine' none_mk KX G₀ ?a
      (case a => k_is)
    have n_tuple : mg "tuple" = none := by
      refine' none_mk KX G₀ ?a
      (case a => k_is)
    have n_zip : mg "zip" = none := by
      refine' none_mk KX G₀ ?a
      (case a => k_is)
    have catch_SpanError : Catches (gX KX) "SpanError" [("SpanError", true)] := by
      intro p hp
      simp only [List.mem_cons, List.not_mem_nil, or_false] at hp
      rcases hp with rfl
      · show PySem.W.exmOne _ (.ref ((gOf _).ga "SpanError")) (.ref ((gOf _).ga "SpanError")) = _
        rw [ga_SpanError]
        refine' exm_one ?a ?b ?c ?d
        (case a => first | k_is | kernel_rfl)
        (case b => first | k_is | kernel_rfl)
        (case c => first | k_is | kernel_rfl)
        (case d => first | k_is | kernel_rfl)
    have d_check_spans : DefL (gX KX) mg "check_spans" s_check_spans ["rows"] := by
      refine' defL_mk (cA := 46) KX G₀ rfl (congrArg Prod.fst (cp_check_spans _)) ?a ?b ?c ?d (fun us hl => match us, hl with | [_], _ => rfl)
      (case a => k_is)
      (case b => k_is)
      (case c => k_is)
      (case d => k_is)
    have d_joined : DefD (gX KX) mg "joined" s_joined ["rows"] := by
      refine' defD_mk KX G₀ rfl ?a ?b ?c ?d (fun us hl => match us, hl with | [_], _ => rfl)
      (case a => k_is)
      (case b => k_is)
      (case c => k_is)
      (case d => k_is)
    have d_common : DefD (gX KX) mg "common" s_common ["one", "other"] := by
      refine' defD_mk KX G₀ rfl ?a ?b ?c ?d (fun us hl => match us, hl with | [_, _], _ => rfl)
      (case a => k_is)
      (case b => k_is)
      (case c => k_is)
      (case d => k_is)
    have d_without : DefD (gX KX) mg "without" s_without ["one", "other"] := by
      refine' defD_mk KX G₀ rfl ?a ?b ?c ?d (fun us hl => match us, hl with | [_, _], _ => rfl)
      (case a => k_is)
      (case b => k_is)
      (case c => k_is)
      (case d => k_is)
    have d_either : DefD (gX KX) mg "either" s_either ["one", "other"] := by
      refine' defD_mk KX G₀ rfl ?a ?b ?c ?d (fun us hl => match us, hl with | [_, _], _ => rfl)
      (case a => k_is)
      (case b => k_is)
      (case c => k_is)
      (case d => k_is)
    have d_gaps_in : DefD (gX KX) mg "gaps_in" s_gaps_in ["rows", "start", "end"] := by
      refine' defD_mk KX G₀ rfl ?a ?b ?c ?d (fun us hl => match us, hl with | [_, _, _], _ => rfl)
      (case a => k_is)
      (case b => k_is)
      (case c => k_is)
      (case d => k_is)
    have d_length_of : DefL (gX KX) mg "length_of" s_length_of ["rows"] := by
      refine' defL_mk (cA := 88) KX G₀ rfl (congrArg Prod.fst (cp_length_of _)) ?a ?b ?c ?d (fun us hl => match us, hl with | [_], _ => rfl)
      (case a => k_is)
      (case b => k_is)
      (case c => k_is)
      (case d => k_is)
    have d_holds_at : DefL (gX KX) mg "holds_at" s_holds_at ["rows", "when"] := by
      refine' defL_mk (cA := 95) KX G₀ rfl (congrArg Prod.fst (cp_holds_at _)) ?a ?b ?c ?d (fun us hl => match us, hl with | [_, _], _ => rfl)
      (case a => k_is)
      (case b => k_is)
      (case c => k_is)
      (case d => k_is)
    have d_how_lies : DefD (gX KX) mg "how_lies" s_how_lies ["one", "other"] := by
      refine' defD_mk KX G₀ rfl ?a ?b ?c ?d (fun us hl => match us, hl with | [_, _], _ => rfl)
      (case a => k_is)
      (case b => k_is)
      (case c => k_is)
      (case d => k_is)
    have d_plain_lies : DefD (gX KX) mg "plain_lies" s_plain_lies ["one", "other"] := by
      refine' defD_mk KX G₀ rfl ?a ?b ?c ?d (fun us hl => match us, hl with | [_, _], _ => rfl)
      (case a => k_is)
      (case b => k_is)
      (case c => k_is)
      (case d => k_is)
    have d_how_many_at : DefD (gX KX) mg "how_many_at" s_how_many_at ["rows"] := by
      refine' defD_mk KX G₀ rfl ?a ?b ?c ?d (fun us hl => match us, hl with | [_], _ => rfl)
      (case a => k_is)
      (case b => k_is)
      (case c => k_is)
      (case d => k_is)
    have d_most_at_once : DefD (gX KX) mg "most_at_once" s_most_at_once ["rows"] := by
      refine' defD_mk KX G₀ rfl ?a ?b ?c ?d (fun us hl => match us, hl with | [_], _ => rfl)
      (case a => k_is)
      (case b => k_is)
      (case c => k_is)
      (case d => k_is)
    have d_in_at_least : DefD (gX KX) mg "in_at_least" s_in_at_least ["rows", "many"] := by
      refine' defD_mk KX G₀ rfl ?a ?b ?c ?d (fun us hl => match us, hl with | [_, _], _ => rfl)
      (case a => k_is)
      (case b => k_is)
      (case c => k_is)
      (case d => k_is)
    have d_first_fit : DefD (gX KX) mg "first_fit" s_first_fit ["free", "long", "step", "start"] := by
      refine' defD_mk KX G₀ rfl ?a ?b ?c ?d (fun us hl => match us, hl with | [_, _, _, _], _ => rfl)
      (case a => k_is)
      (case b => k_is)
      (case c => k_is)
      (case d => k_is)
    have d_moved_by : DefL (gX KX) mg "moved_by" s_moved_by ["rows", "by"] := by
      refine' defL_mk (cA := 138) KX G₀ rfl (congrArg Prod.fst (cp_moved_by _)) ?a ?b ?c ?d (fun us hl => match us, hl with | [_, _], _ => rfl)
      (case a => k_is)
      (case b => k_is)
      (case c => k_is)
      (case d => k_is)
    have d_wider : DefD (gX KX) mg "wider" s_wider ["rows", "ahead", "behind"] := by
      refine' defD_mk KX G₀ rfl ?a ?b ?c ?d (fun us hl => match us, hl with | [_, _, _], _ => rfl)
      (case a => k_is)
      (case b => k_is)
      (case c => k_is)
      (case d => k_is)
    have d_fewest_points : DefL (gX KX) mg "fewest_points" s_fewest_points ["rows"] := by
      refine' defL_mk (cA := 150) KX G₀ rfl (congrArg Prod.fst (cp_fewest_points _)) ?a ?b ?c ?d (fun us hl => match us, hl with | [_], _ => rfl)
      (case a => k_is)
      (case b => k_is)
      (case c => k_is)
      (case d => k_is)
    have d_most_apart : DefL (gX KX) mg "most_apart" s_most_apart ["rows"] := by
      refine' defL_mk (cA := 157) KX G₀ rfl (congrArg Prod.fst (cp_most_apart _)) ?a ?b ?c ?d (fun us hl => match us, hl with | [_], _ => rfl)
      (case a => k_is)
      (case b => k_is)
      (case c => k_is)
      (case d => k_is)
    have d__law_dice : DefD (gX KX) mg "_law_dice" s__law_dice ["cell"] := by
      refine' defD_mk KX G₀ rfl ?a ?b ?c ?d (fun us hl => match us, hl with | [_], _ => rfl)
      (case a => k_is)
      (case b => k_is)
      (case c => k_is)
      (case d => k_is)
    have d__law_roll : DefD (gX KX) mg "_law_roll" s__law_roll ["dice", "many"] := by
      refine' defD_mk KX G₀ rfl ?a ?b ?c ?d (fun us hl => match us, hl with | [_, _], _ => rfl)
      (case a => k_is)
      (case b => k_is)
      (case c => k_is)
      (case d => k_is)
    have d__law_rounds : DefD (gX KX) mg "_law_rounds" s__law_rounds ["script", "most"] := by
      refine' defD_mk KX G₀ rfl ?a ?b ?c ?d (fun us hl => match us, hl with | [_, _], _ => rfl)
      (case a => k_is)
      (case b => k_is)
      (case c => k_is)
      (case d => k_is)
    have d__law_told : DefD (gX KX) mg "_law_told" s__law_told ["what"] := by
      refine' defD_mk KX G₀ rfl ?a ?b ?c ?d (fun us hl => match us, hl with | [_], _ => rfl)
      (case a => k_is)
      (case b => k_is)
      (case c => k_is)
      (case d => k_is)
    have d__law_rows : DefD (gX KX) mg "_law_rows" s__law_rows ["dice"] := by
      refine' defD_mk KX G₀ rfl ?a ?b ?c ?d (fun us hl => match us, hl with | [_], _ => rfl)
      (case a => k_is)
      (case b => k_is)
      (case c => k_is)
      (case d => k_is)
    have d__law_at : DefD (gX KX) mg "_law_at" s__law_at ["rows", "when"] := by
      refine' defD_mk KX G₀ rfl ?a ?b ?c ?d (fun us hl => match us, hl with | [_, _], _ => rfl)
      (case a => k_is)
      (case b => k_is)
      (case c => k_is)
      (case d => k_is)
    have d__law_made : DefD (gX KX) mg "_law_made" s__law_made ["times"] := by
      refine' defD_mk KX G₀ rfl ?a ?b ?c ?d (fun us hl => match us, hl with | [_], _ => rfl)
      (case a => k_is)
      (case b => k_is)
      (case c => k_is)
      (case d => k_is)
    have d__law_lies : DefD (gX KX) mg "_law_lies" s__law_lies ["one", "other"] := by
      refine' defD_mk KX G₀ rfl ?a ?b ?c ?d (fun us hl => match us, hl with | [_, _], _ => rfl)
      (case a => k_is)
      (case b => k_is)
      (case c => k_is)
      (case d => k_is)
    have d__law_sets : DefD (gX KX) mg "_law_sets" s__law_sets ["things"] := by
      refine' defD_mk KX G₀ rfl ?a ?b ?c ?d (fun us hl => match us, hl with | [_], _ => rfl)
      (case a => k_is)
      (case b => k_is)
      (case c => k_is)
      (case d => k_is)
    have d__law_clash : DefD (gX KX) mg "_law_clash" s__law_clash ["rows", "places"] := by
      refine' defD_mk KX G₀ rfl ?a ?b ?c ?d (fun us hl => match us, hl with | [_, _], _ => rfl)
      (case a => k_is)
      (case b => k_is)
      (case c => k_is)
      (case d => k_is)
    have d__law_plain : DefL (gX KX) mg "_law_plain" s__law_plain [] := by
      refine' defL_mk (cA := 222) KX G₀ rfl (congrArg Prod.fst (cp__law_plain _)) ?a ?b ?c ?d (fun us hl => match us, hl with | [], _ => rfl)
      (case a => k_is)
      (case b => k_is)
      (case c => k_is)
      (case d => k_is)
    have mT_check_spans : (((gX KX).cp "check_spans").2, (("check_spans" : Str) ++ ".<locals>.") ++ "<genexpr>") ∈ (gX KX).T := by
      rw [show (gX KX).cp "check_spans" = _ from cp_check_spans _]
      simp [gOf]
    have hu_check_spans : ∀ p ∈ (gX KX).T, p.1 = ((gX KX).cp "check_spans").2 → p.2 = (("check_spans" : Str) ++ ".<locals>.") ++ "<genexpr>" := by
      rw [show (gX KX).cp "check_spans" = _ from cp_check_spans _]
      intro p hp e
      simp only [gOf, List.mem_cons, List.not_mem_nil, or_false] at hp
      rcases hp with rfl | rfl | rfl | rfl | rfl | rfl | rfl
      all_goals first | (exact absurd e (by decide)) | rfl
    have mT_fewest_points : (((gX KX).cp "fewest_points").2, (("fewest_points" : Str) ++ ".<locals>.") ++ "<genexpr>") ∈ (gX KX).T := by
      rw [show (gX KX).cp "fewest_points" = _ from cp_fewest_points _]
      simp [gOf]
    have hu_fewest_points : ∀ p ∈ (gX KX).T, p.1 = ((gX KX).cp "fewest_points").2 → p.2 = (("fewest_points" : Str) ++ ".<locals>.") ++ "<genexpr>" := by
      rw [show (gX KX).cp "fewest_points" = _ from cp_fewest_points _]
      intro p hp e
      simp only [gOf, List.mem_cons, List.not_mem_nil, or_false] at hp
      rcases hp with rfl | rfl | rfl | rfl | rfl | rfl | rfl
      all_goals first | (exact absurd e (by decide)) | rfl
    have mT_holds_at : (((gX KX).cp "holds_at").2, (("holds_at" : Str) ++ ".<locals>.") ++ "<genexpr>") ∈ (gX KX).T := by
      rw [show (gX KX).cp "holds_at" = _ from cp_holds_at _]
      simp [gOf]
    have hu_holds_at : ∀ p ∈ (gX KX).T, p.1 = ((gX KX).cp "holds_at").2 → p.2 = (("holds_at" : Str) ++ ".<locals>.") ++ "<genexpr>" := by
      rw [show (gX KX).cp "holds_at" = _ from cp_holds_at _]
      intro p hp e
      simp only [gOf, List.mem_cons, List.not_mem_nil, or_false] at hp
      rcases hp with rfl | rfl | rfl | rfl | rfl | rfl | rfl
      all_goals first | (exact absurd e (by decide)) | rfl
    have mT_length_of : (((gX KX).cp "length_of").2, (("length_of" : Str) ++ ".<locals>.") ++ "<genexpr>") ∈ (gX KX).T := by
      rw [show (gX KX).cp "length_of" = _ from cp_length_of _]
      simp [gOf]
    have hu_length_of : ∀ p ∈ (gX KX).T, p.1 = ((gX KX).cp "length_of").2 → p.2 = (("length_of" : Str) ++ ".<locals>.") ++ "<genexpr>" := by
      rw [show (gX KX).cp "length_of" = _ from cp_length_of _]
      intro p hp e
      simp only [gOf, List.mem_cons, List.not_mem_nil, or_false] at hp
      rcases hp with rfl | rfl | rfl | rfl | rfl | rfl | rfl
      all_goals first | (exact absurd e (by decide)) | rfl
    have mT_most_apart : (((gX KX).cp "most_apart").2, (("most_apart" : Str) ++ ".<locals>.") ++ "<genexpr>") ∈ (gX KX).T := by
      rw [show (gX KX).cp "most_apart" = _ from cp_most_apart _]
      simp [gOf]
    have hu_most_apart : ∀ p ∈ (gX KX).T, p.1 = ((gX KX).cp "most_apart").2 → p.2 = (("most_apart" : Str) ++ ".<locals>.") ++ "<genexpr>" := by
      rw [show (gX KX).cp "most_apart" = _ from cp_most_apart _]
      intro p hp e
      simp only [gOf, List.mem_cons, List.not_mem_nil, or_false] at hp
      rcases hp with rfl | rfl | rfl | rfl | rfl | rfl | rfl
      all_goals first | (exact absurd e (by decide)) | rfl
    have mT_moved_by : (((gX KX).cp "moved_by").2, (("moved_by" : Str) ++ ".<locals>.") ++ "<genexpr>") ∈ (gX KX).T := by
      rw [show (gX KX).cp "moved_by" = _ from cp_moved_by _]
      simp [gOf]
    have hu_moved_by : ∀ p ∈ (gX KX).T, p.1 = ((gX KX).cp "moved_by").2 → p.2 = (("moved_by" : Str) ++ ".<locals>.") ++ "<genexpr>" := by
      rw [show (gX KX).cp "moved_by" = _ from cp_moved_by _]
      intro p hp e
      simp only [gOf, List.mem_cons, List.not_mem_nil, or_false] at hp
      rcases hp with rfl | rfl | rfl | rfl | rfl | rfl | rfl
      all_goals first | (exact absurd e (by decide)) | rfl
    have mT__law_plain : (((gX KX).cp "_law_plain").2, (("_law_plain" : Str) ++ ".<locals>.") ++ "<lambda>") ∈ (gX KX).T := by
      rw [show (gX KX).cp "_law_plain" = _ from cp__law_plain _]
      simp [gOf]
    have hu__law_plain : ∀ p ∈ (gX KX).T, p.1 = ((gX KX).cp "_law_plain").2 → p.2 = (("_law_plain" : Str) ++ ".<locals>.") ++ "<lambda>" := by
      rw [show (gX KX).cp "_law_plain" = _ from cp__law_plain _]
      intro p hp e
      simp only [gOf, List.mem_cons, List.not_mem_nil, or_false] at hp
      rcases hp with rfl | rfl | rfl | rfl | rfl | rfl | rfl
      all_goals first | (exact absurd e (by decide)) | rfl
    have lam_no : ∀ n, 19 ≤ n → (gX KX).lam n = none := by
      intro n hn
      show lamT n = none
      obtain ⟨k, rfl⟩ := Nat.exists_eq_add_of_le hn
      rw [Nat.add_comm]
      rfl
    have T : Txt (gX KX) mg := { e_SpanError := e_SpanError, g_WAYS_TO_LIE := g_WAYS_TO_LIE, n_abs := n_abs, n_any := n_any, n_enumerate := n_enumerate, n_int := n_int, n_len := n_len, n_list := n_list, n_max := n_max, n_min := n_min, n_range := n_range, n_sorted := n_sorted, n_sum := n_sum, n_tuple := n_tuple, n_zip := n_zip, catch_SpanError := catch_SpanError, d_check_spans := d_check_spans, d_joined := d_joined, d_common := d_common, d_without := d_without, d_either := d_either, d_gaps_in := d_gaps_in, d_length_of := d_length_of, d_holds_at := d_holds_at, d_how_lies := d_how_lies, d_plain_lies := d_plain_lies, d_how_many_at := d_how_many_at, d_most_at_once := d_most_at_once, d_in_at_least := d_in_at_least, d_first_fit := d_first_fit, d_moved_by := d_moved_by, d_wider := d_wider, d_fewest_points := d_fewest_points, d_most_apart := d_most_apart, d__law_dice := d__law_dice, d__law_roll := d__law_roll, d__law_rounds := d__law_rounds, d__law_told := d__law_told, d__law_rows := d__law_rows, d__law_at := d__law_at, d__law_made := d__law_made, d__law_lies := d__law_lies, d__law_sets := d__law_sets, d__law_clash := d__law_clash, d__law_plain := d__law_plain, mT_check_spans := mT_check_spans, hu_check_spans := hu_check_spans, mT_fewest_points := mT_fewest_points, hu_fewest_points := hu_fewest_points, mT_holds_at := mT_holds_at, hu_holds_at := hu_holds_at, mT_length_of := mT_length_of, hu_length_of := hu_length_of, mT_most_apart := mT_most_apart, hu_most_apart := hu_most_apart, mT_moved_by := mT_moved_by, hu_moved_by := hu_moved_by, mT__law_plain := mT__law_plain, hu__law_plain := hu__law_plain, l_0 := rfl, l_1 := rfl, l_2 := rfl, l_3 := rfl, l_4 := rfl, l_5 := rfl, l_6 := rfl, l_7 := rfl, l_8 := rfl, l_9 := rfl, l_10 := rfl, l_11 := rfl, l_12 := rfl, l_13 := rfl, l_14 := rfl, l_15 := rfl, l_16 := rfl, l_17 := rfl, l_18 := rfl, lam_no := lam_no }
    have hT : ∀ p ∈ ([(46, 42), (150, 146), (95, 91), (88, 84), (157, 153), (138, 134), (222, 220)] : List (Addr × Addr)), h.get? p.2 = some { cls := .none, data := .fields #[] } := by
      intro p hp; simp only [List.mem_cons, List.not_mem_nil, or_false] at hp
      rcases hp with rfl | rfl | rfl | rfl | rfl | rfl | rfl
      · exact (G.tab_at (x := "check_spans") (c := 46) (P := 42) Gr.T KX (by kernel_rfl) (by kernel_rfl)).2
      · exact (G.tab_at (x := "fewest_points") (c := 150) (P := 146) Gr.T KX (by kernel_rfl) (by kernel_rfl)).2
      · exact (G.tab_at (x := "holds_at") (c := 95) (P := 91) Gr.T KX (by kernel_rfl) (by kernel_rfl)).2
      · exact (G.tab_at (x := "length_of") (c := 88) (P := 84) Gr.T KX (by kernel_rfl) (by kernel_rfl)).2
      · exact (G.tab_at (x := "most_apart") (c := 157) (P := 153) Gr.T KX (by kernel_rfl) (by kernel_rfl)).2
      · exact (G.tab_at (x := "moved_by") (c := 138) (P := 134) Gr.T KX (by kernel_rfl) (by kernel_rfl)).2
      · exact (G.tab_at (x := "_law_plain") (c := 222) (P := 220) Gr.T KX (by kernel_rfl) (by kernel_rfl)).2
    have C : ∀ p ∈ ([(46, 42), (150, 146), (95, 91), (88, 84), (157, 153), (138, 134), (222, 220)] : List (Addr × Addr)), PySem.W.CodeHd h p.1 p.2 := by
      intro p hp; simp only [List.mem_cons, List.not_mem_nil, or_false] at hp
      rcases hp with rfl | rfl | rfl | rfl | rfl | rfl | rfl
      · exact codeHd_of_K (c := 46) (P := 42) KX (by kernel_rfl)
      · exact codeHd_of_K (c := 150) (P := 146) KX (by kernel_rfl)
      · exact codeHd_of_K (c := 95) (P := 91) KX (by kernel_rfl)
      · exact codeHd_of_K (c := 88) (P := 84) KX (by kernel_rfl)
      · exact codeHd_of_K (c := 157) (P := 153) KX (by kernel_rfl)
      · exact codeHd_of_K (c := 138) (P := 134) KX (by kernel_rfl)
      · exact codeHd_of_K (c := 222) (P := 220) KX (by kernel_rfl)
    refine' law_fin KX G₀ hmg T ?a ?b ?c hT ?nT C
    (case a => k_is)
    (case b => k_is)
    (case c => k_is)
    case nT =>
      intro p hp; simp only [List.mem_cons, List.not_mem_nil, or_false] at hp
      rcases hp with rfl | rfl | rfl | rfl | rfl | rfl | rfl
      all_goals kernel_rfl
