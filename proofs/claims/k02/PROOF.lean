import PyProof.Rows.All
import Wide.All
import OpenK.AllK
import Wide.FinOn
import HandS.ForMost
import HandS.ForExc
import HandS.Lambda
import HandS.TupAny
import HandS.TupLe
import HandS.Style
import HandS.Conv
import HandS.SortInts
import HandS.EndTab
import KE.KNestM
import HandS.GenList
import PyProof.GenComp
import PyProof.CollectIter
import PyProof.TupleCall
import HandS.TupSets
import HandS.DictComp
import KE.KLam
import PySem.Challenge.RW_clockstack_k02_weeks_and_their_days
set_option Elab.async false
set_option linter.all false
set_option maxRecDepth 100000
set_option maxHeartbeats 16000000
/-! The data layer: what a def computes, as a plain Lean function over data (D) and a store of things that change (SO); the judgements PD, PTD, .. say that a piece of the program does so. -/
namespace G
open PySem L2

/-! ### data -/
/-- a key of a dict -/
inductive HK where | k (x : Key) | t (xs : List Key) deriving DecidableEq
inductive D where
  | non | bl (b : Bool) | int (i : Int) | str (x : Str)
  /-- a tuple; a list, a dict that nobody changes -/
  | tup (xs : List D) | lst (xs : List D) | dic (ks : List HK) (vs : List D)
  /-- a thing of the store -/
  | ref (n : Nat)
  /-- what a name of the module holds (a def, a class) -/
  | fn (x : Str)
  | lam (n : Nat)
  /-- the script -/
  | scr (ns : List Int)
/-- what may change -/
inductive SO where
  | lst (xs : List D) | dic (ks : List HK) (vs : List D) | ins (C : Str) (fs : List (Str × D))
abbrev Store := List SO
inductive R (α : Type) where
  | ok (a : α) (st : Store) | ex (c : Str) (st : Store) | bad
abbrev Env := List (Option D)
abbrev DE := Env → Store → R D
abbrev DT := Env → Store → R Bool
abbrev DA := Env → Store → R (List D)
def R.bind {α β : Type} (r : R α) (k : α → Store → R β) : R β := match r with
  | .ok a st => k a st
  | .ex c st => .ex c st
  | .bad => .bad
@[simp] theorem R.bind_ok {α β : Type} (a : α) (st : Store) (k : α → Store → R β) : (R.ok a st).bind k = k a st := rfl
@[simp] theorem R.bind_ex {α β : Type} (c : Str) (st : Store) (k : α → Store → R β) : (R.ex c st : R α).bind k = .ex c st := rfl
@[simp] theorem R.bind_bad {α β : Type} (k : α → Store → R β) : (R.bad : R α).bind k = .bad := rfl

/-! ### how data lie in the heap -/
/-- a lambda of the text that captures nothing -/
structure LamI where
  qual : Str
  params : Arguments
  body : Expr
  scope : Scope
structure GC where
  K : PySem.W.Frag
  ga : Str → Addr
  T : List (Addr × Str)
  lam : Nat → Option LamI
  /-- a def's code object and its table -/
  cp : Str → Addr × Addr
/-- the lambda stands at f, its code object at c -/
def LamO (f c : Addr) (l : LamI) (pm ctv : Value) : HO := .ext fun h => h.get? f = some (PySem.W.kla_obj "<lambda>" l.qual l.params l.body l.scope [] pm c ctv)
/-- where the things of the store lie, and lists that are being made (nobody knows of them) -/
structure Mp where
  m : List Addr
  h : List Addr
def Mp.out (μ : Mp) (a : Addr) : Prop := a ∉ μ.m ∧ a ∉ μ.h
/-- a list, a tuple of the written part -/
def KL (K : PySem.W.Frag) (a : Addr) (xs : List V) : Prop := ∃ (o : Obj) (its : Array Value) (n : Nat), K.lookup a = some o ∧ o.cls = .type "list" ∧ o.dict = none ∧ o.data = .seq its n ∧ its.size ≤ sizeLine ∧ Vals xs its.toList
def KT (K : PySem.W.Frag) (a : Addr) (xs : List V) : Prop := ∃ (o : Obj) (its : Array Value) (n : Nat), K.lookup a = some o ∧ o.cls = .type "tuple" ∧ o.data = .seq its n ∧ its.size ≤ sizeLine ∧ Vals xs its.toList
/-- how a dict with these keys stands -/
def keysK : List HK → Option (List Key)
  | [] => some []
  | .k x :: r => (keysK r).map (x :: ·)
  | .t _ :: _ => none
def keysT : List HK → Option (List (List Key))
  | [] => some []
  | .t x :: r => (keysT r).map (x :: ·)
  | .k _ :: _ => none
def DicO (ks : List HK) (vs : List V) (o : HO) : Prop :=
  (∃ kk, keysK ks = some kk ∧ o = .dK (kk.zip vs)) ∨ (∃ kk, keysT ks = some kk ∧ kk ≠ [] ∧ o = .dT (kk.zip vs))
section
variable (g : GC) (μ : Mp) (H : Hp)
mutual
def Rep : D → V → Prop
  | .non, v => v = .non
  | .bl b, v => v = .bl b
  | .int i, v => v = .int i
  | .str x, v => v = .str x
  | .tup ds, v => ∃ a vs, v = .ref a ∧ ((μ.out a ∧ Rd H a (.tup vs)) ∨ KT g.K a vs) ∧ Reps ds vs
  | .lst ds, v => ∃ a vs, v = .ref a ∧ (μ.out a ∧ H a = some (.lst vs)) ∧ Reps ds vs
  | .dic ks ds, v => ∃ a vs o, v = .ref a ∧ μ.out a ∧ Rd H a o ∧ DicO ks vs o ∧ ks.length = vs.length ∧ Reps ds vs
  | .ref n, v => ∃ a, v = .ref a ∧ μ.m[n]? = some a
  | .fn x, v => v = .ref (g.ga x)
  | .lam n, v => ∃ f c l pm ctv, v = .ref f ∧ g.lam n = some l ∧ (μ.out f ∧ Rd H f (LamO f c l pm ctv)) ∧ μ.out c ∧ Rd H c (LamX.CodeO c l.qual)
  | .scr ns, v => ∃ a, v = .ref a ∧ ((μ.out a ∧ Rd H a (.lst (ns.map V.int))) ∨ KL g.K a (ns.map V.int))
def Reps : List D → List V → Prop
  | [], vs => vs = []
  | d :: ds, vs => ∃ v vr, vs = v :: vr ∧ Rep d v ∧ Reps ds vr
end
/-- fields -/
def RepF : List (Str × D) → List (Str × V) → Prop
  | [], vs => vs = []
  | (f, d) :: ds, vs => ∃ v vr, vs = (f, v) :: vr ∧ Rep g μ H d v ∧ RepF ds vr
def RepO (a : Addr) : SO → Prop
  | .lst ds => ∃ vs, H a = some (.lst vs) ∧ Reps g μ H ds vs
  | .dic ks ds => ∃ vs o, H a = some o ∧ DicO ks vs o ∧ ks.length = vs.length ∧ Reps g μ H ds vs
  | .ins C fs => ∃ dx gs, H a = some (.ins (g.ga C) dx gs) ∧ RepF g μ H fs gs
/-- what is being made: a list, a dict -/
inductive HidV where | l (vs : List V) | k (kvs : List (Key × V))
def HidV.ho : HidV → HO
  | .l vs => .lst vs
  | .k kvs => .dK kvs
/-- the store -/
structure RelS (st : Store) : Prop where
  len : μ.m.length = st.length
  nd : μ.m.Nodup
  hid : ∀ a ∈ μ.h, a ∉ μ.m ∧ ∃ vs : HidV, H a = some vs.ho
  at_ : ∀ (n : Nat) a o, μ.m[n]? = some a → st[n]? = some o → RepO g μ H a o
  tabs : LamX.Tabs g.T H
/-- the names -/
structure RelE (env : Env) (σ : L2.St) : Prop where
  len : env.length = σ.length
  at_ : ∀ (i : Nat) d, env[i]? = some (some d) → ∃ v, σ[i]? = some (some v) ∧ Rep g μ H d v
end
/-- later: what is known is known on -/
structure Lw (μ : Mp) (H : Hp) (μ' : Mp) (H' : Hp) : Prop where
  pre : ∀ (n : Nat) a, μ.m[n]? = some a → μ'.m[n]? = some a
  keep : ∀ a u, μ.out a → Rd H a u → (∀ ps, u ≠ .tbl ps) → μ'.out a ∧ Rd H' a u
  keepL : ∀ a vs, μ.out a → H a = some (.lst vs) → H' a = some (.lst vs)
/-- .. and the lists that are being made stand -/
structure Le (μ : Mp) (H : Hp) (μ' : Mp) (H' : Hp) : Prop extends Lw μ H μ' H' where
  hh : μ'.h = μ.h
  hk : ∀ a ∈ μ.h, H' a = H a
section
variable {g : GC} {μ μ' μ'' : Mp} {H H' H'' : Hp}
theorem Lw.refl : Lw μ H μ H := ⟨fun _ _ h => h, fun _ _ h1 h2 _ => ⟨h1, h2⟩, fun _ _ _ h => h⟩
theorem Lw.trans (a : Lw μ H μ' H') (b : Lw μ' H' μ'' H'') : Lw μ H μ'' H'' := ⟨fun n x h => b.pre n x (a.pre n x h), fun x u h1 h2 h3 =>
  let ⟨h4, h5⟩ := a.keep x u h1 h2 h3
  b.keep x u h4 h5 h3, fun x vs h1 h2 => b.keepL x vs (a.keep x _ h1 (.inl h2) (by intro _ z; cases z)).1 (a.keepL x vs h1 h2)⟩
theorem Le.refl : Le μ H μ H := ⟨Lw.refl, rfl, fun _ _ => rfl⟩
theorem Le.trans (a : Le μ H μ' H') (b : Le μ' H' μ'' H'') : Le μ H μ'' H'' := ⟨a.toLw.trans b.toLw, b.hh.trans a.hh, fun x hx => (b.hk x (by rw [a.hh]; exact hx)).trans (a.hk x hx)⟩
theorem DicO.noTbl {ks : List HK} {vs : List V} {o : HO} (h : DicO ks vs o) : ∀ ps, o ≠ .tbl ps := fun ps e => by
  rcases h with ⟨_, _, h⟩ | ⟨_, _, _, h⟩ <;> (rw [h] at e; cases e)
mutual
theorem Rep.lw (L : Lw μ H μ' H') : ∀ {d : D} {v : V}, Rep g μ H d v → Rep g μ' H' d v
  | .non, _, h => h
  | .bl _, _, h => h
  | .int _, _, h => h
  | .str _, _, h => h
  | .tup ds, v, h => by
    obtain ⟨a, vs, e, h1, h2⟩ := h
    refine ⟨a, vs, e, ?_, Reps.lw L h2⟩
    rcases h1 with ⟨n, r⟩ | k
    · exact .inl (L.keep _ _ n r (by intro _ z; cases z))
    · exact .inr k
  | .lst ds, v, h => by
    obtain ⟨a, vs, e, ⟨n, r⟩, h2⟩ := h
    exact ⟨a, vs, e, ⟨(L.keep _ _ n (.inl r) (by intro _ z; cases z)).1, L.keepL _ _ n r⟩, Reps.lw L h2⟩
  | .dic ks ds, v, h => by
    obtain ⟨a, vs, o, e, n, r, h1, h3, h2⟩ := h
    obtain ⟨n', r'⟩ := L.keep _ _ n r h1.noTbl
    exact ⟨a, vs, o, e, n', r', h1, h3, Reps.lw L h2⟩
  | .ref n, v, h => by
    obtain ⟨a, e, h⟩ := h
    exact ⟨a, e, L.pre n a h⟩
  | .fn _, _, h => h
  | .lam n, v, h => by
    obtain ⟨f, c, l, pm, ctv, e, e1, ⟨n1, h1⟩, n2, h2⟩ := h
    exact ⟨f, c, l, pm, ctv, e, e1, L.keep _ _ n1 h1 (by intro _ z; unfold LamO at z; cases z), L.keep _ _ n2 h2 (by intro _ z; unfold LamX.CodeO at z; cases z)⟩
  | .scr ns, v, h => by
    obtain ⟨a, e, h1⟩ := h
    refine ⟨a, e, ?_⟩
    rcases h1 with ⟨n, r⟩ | k
    · exact .inl (L.keep _ _ n r (by intro _ z; cases z))
    · exact .inr k
theorem Reps.lw (L : Lw μ H μ' H') : ∀ {ds : List D} {vs : List V}, Reps g μ H ds vs → Reps g μ' H' ds vs
  | [], _, h => h
  | d :: ds, vs, h => by
    obtain ⟨v, vr, e, h1, h2⟩ := h
    exact ⟨v, vr, e, Rep.lw L h1, Reps.lw L h2⟩
end
theorem Rep.le (L : Le μ H μ' H') {d : D} {v : V} (h : Rep g μ H d v) : Rep g μ' H' d v := h.lw L.toLw
theorem Reps.le (L : Le μ H μ' H') {ds : List D} {vs : List V} (h : Reps g μ H ds vs) : Reps g μ' H' ds vs := h.lw L.toLw
theorem RepF.lw (L : Lw μ H μ' H') : ∀ {ds : List (Str × D)} {vs : List (Str × V)}, RepF g μ H ds vs → RepF g μ' H' ds vs
  | [], _, h => h
  | (f, d) :: ds, vs, h => by
    obtain ⟨v, vr, e, h1, h2⟩ := h
    exact ⟨v, vr, e, Rep.lw L h1, RepF.lw L h2⟩
theorem RelE.lw (L : Lw μ H μ' H') {env : Env} {σ : L2.St} (h : RelE g μ H env σ) : RelE g μ' H' env σ := ⟨h.len, fun i d e => let ⟨v, h1, h2⟩ := h.at_ i d e; ⟨v, h1, h2.lw L⟩⟩
theorem RelE.le (L : Le μ H μ' H') {env : Env} {σ : L2.St} (h : RelE g μ H env σ) : RelE g μ' H' env σ := h.lw L.toLw
theorem RelE.set {env : Env} {σ : L2.St} (h : RelE g μ H env σ) (i : Nat) {d : D} {v : V} (r : Rep g μ H d v) : RelE g μ H (env.set i (some d)) (σ.set i (some v)) := by
  refine ⟨by simp [h.len], fun j e hj => ?_⟩
  by_cases hij : i = j
  · subst hij
    by_cases hl : i < env.length
    · rw [List.getElem?_set_self hl] at hj
      cases hj
      exact ⟨v, List.getElem?_set_self (by rw [← h.len]; exact hl), r⟩
    · rw [List.getElem?_eq_none (by simpa using hl)] at hj; cases hj
  · rw [List.getElem?_set_ne hij] at hj
    obtain ⟨w, h1, h2⟩ := h.at_ j e hj
    exact ⟨w, by rw [List.getElem?_set_ne hij]; exact h1, h2⟩
theorem Reps.len {μ : Mp} {H : Hp} : ∀ {ds : List D} {vs : List V}, Reps g μ H ds vs → ds.length = vs.length
  | [], _, h => by rw [show _ = [] from h] <;> rfl
  | d :: ds, vs, h => by
    obtain ⟨v, vr, e, _, h2⟩ := h
    rw [e, List.length_cons, List.length_cons, h2.len]
theorem Reps.get {μ : Mp} {H : Hp} : ∀ {ds : List D} {vs : List V} {i : Nat} {d : D}, Reps g μ H ds vs → ds[i]? = some d → ∃ v, vs[i]? = some v ∧ Rep g μ H d v
  | [], _, _, _, _, e => by simp at e
  | d :: ds, vs, 0, x, h, e => by
    obtain ⟨v, vr, e1, h1, _⟩ := h
    simp at e
    subst e e1
    exact ⟨v, rfl, h1⟩
  | d :: ds, vs, i + 1, x, h, e => by
    obtain ⟨v, vr, e1, _, h2⟩ := h
    obtain ⟨w, h3, h4⟩ := h2.get (i := i) (by simpa using e)
    subst e1
    exact ⟨w, by simpa using h3, h4⟩
theorem Reps.append {μ : Mp} {H : Hp} : ∀ {ds es : List D} {vs ws : List V}, Reps g μ H ds vs → Reps g μ H es ws → Reps g μ H (ds ++ es) (vs ++ ws)
  | [], _, _, _, h, q => by rw [show _ = [] from h]; exact q
  | d :: ds, _, _, _, h, q => by
    obtain ⟨v, vr, e1, h1, h2⟩ := h
    subst e1
    exact ⟨v, _, rfl, h1, h2.append q⟩
theorem Reps.get' {μ : Mp} {H : Hp} : ∀ {ds : List D} {vs : List V} {i : Nat} {v : V}, Reps g μ H ds vs → vs[i]? = some v → ∃ d, ds[i]? = some d ∧ Rep g μ H d v
  | [], _, _, _, h, e => by rw [show _ = [] from h] at e; simp at e
  | d :: ds, vs, 0, x, h, e => by
    obtain ⟨v, vr, e1, h1, _⟩ := h
    subst e1
    simp at e
    subst e
    exact ⟨d, rfl, h1⟩
  | d :: ds, vs, i + 1, x, h, e => by
    obtain ⟨v, vr, e1, _, h2⟩ := h
    subst e1
    obtain ⟨w, h3, h4⟩ := h2.get' (i := i) (by simpa using e)
    exact ⟨w, by simpa using h3, h4⟩
theorem Reps.take {μ : Mp} {H : Hp} : ∀ (n : Nat) {ds : List D} {vs : List V}, Reps g μ H ds vs → Reps g μ H (ds.take n) (vs.take n)
  | 0, _, _, _ => rfl
  | _ + 1, [], _, h => by rw [show _ = [] from h]; rfl
  | n + 1, d :: ds, _, h => by
    obtain ⟨v, vr, e1, h1, h2⟩ := h
    subst e1
    exact ⟨v, _, rfl, h1, h2.take n⟩
theorem Reps.drop {μ : Mp} {H : Hp} : ∀ (n : Nat) {ds : List D} {vs : List V}, Reps g μ H ds vs → Reps g μ H (ds.drop n) (vs.drop n)
  | 0, _, _, h => h
  | _ + 1, [], _, h => by rw [show _ = [] from h]; rfl
  | n + 1, d :: ds, _, h => by
    obtain ⟨v, vr, e1, h1, h2⟩ := h
    subst e1
    exact h2.drop n
theorem Reps.set {μ : Mp} {H : Hp} {d : D} {v : V} (r : Rep g μ H d v) : ∀ (n : Nat) {ds : List D} {vs : List V}, Reps g μ H ds vs → Reps g μ H (ds.set n d) (vs.set n v)
  | _, [], _, h => by rw [show _ = [] from h]; rfl
  | 0, e :: ds, _, h => by
    obtain ⟨w, vr, e1, h1, h2⟩ := h
    subst e1
    exact ⟨v, vr, rfl, r, h2⟩
  | n + 1, e :: ds, _, h => by
    obtain ⟨w, vr, e1, h1, h2⟩ := h
    subst e1
    exact ⟨w, _, rfl, h1, Reps.set r n h2⟩
theorem Reps.rev {μ : Mp} {H : Hp} : ∀ {ds : List D} {vs : List V}, Reps g μ H ds vs → Reps g μ H ds.reverse vs.reverse
  | [], _, h => by rw [show _ = [] from h]; rfl
  | d :: ds, _, h => by
    obtain ⟨v, vr, e1, h1, h2⟩ := h
    subst e1
    rw [List.reverse_cons, List.reverse_cons]
    exact h2.rev.append ⟨v, [], rfl, h1, rfl⟩
end
end G

namespace G
open PySem L2
section
variable {g : GC} {μ μ' : Mp} {H H' : Hp} {st : Store} {p a : Addr} {o : HO}
theorem RepO.there {so : SO} (h : RepO g μ H a so) : ∃ u, H a = some u ∧ Mut (some u) := by
  cases so with
  | lst ds => obtain ⟨vs, e, _⟩ := h; exact ⟨_, e, trivial⟩
  | dic ks ds =>
    obtain ⟨vs, o, e, d, _⟩ := h
    rcases d with ⟨_, _, d⟩ | ⟨_, _, _, d⟩ <;> exact ⟨_, e, by rw [d]; trivial⟩
  | ins C fs => obtain ⟨dx, gs, e, _⟩ := h; exact ⟨_, e, trivial⟩
theorem RepO.move (L : Lw μ H μ' H') (e : H' a = H a) {so : SO} (h : RepO g μ H a so) : RepO g μ' H' a so := by
  cases so with
  | lst ds => obtain ⟨vs, q, r⟩ := h; exact ⟨vs, e.trans q, r.lw L⟩
  | dic ks ds => obtain ⟨vs, o, q, d, l, r⟩ := h; exact ⟨vs, o, e.trans q, d, l, r.lw L⟩
  | ins C fs => obtain ⟨dx, gs, q, r⟩ := h; exact ⟨dx, gs, e.trans q, r.lw L⟩
theorem RelS.mem (S : RelS g μ H st) (h : a ∈ μ.m) : ∃ u, H a = some u ∧ Mut (some u) := by
  obtain ⟨n, hn⟩ := List.mem_iff_getElem?.mp h
  have hl : n < st.length := by
    rw [← S.len]
    exact (List.getElem?_eq_some_iff.mp hn).1
  exact (S.at_ n a _ hn (List.getElem?_eq_getElem hl)).there
theorem RelS.fresh (S : RelS g μ H st) (hp : H p = none) : p ∉ μ.m := fun h => by
  obtain ⟨u, e, _⟩ := S.mem h
  rw [hp] at e; cases e
theorem Rd.some {u : HO} (h : Rd H a u) : ∃ x, H a = some x := by
  rcases h with h | ⟨_, h⟩ <;> exact ⟨_, h⟩
theorem Rd.upd_ne {u : HO} (h : Rd H a u) (n : a ≠ p) : Rd (upd H p o) a u := by
  rcases h with h | ⟨x, h⟩
  · exact .inl (by rw [L2.upd_ne n]; exact h)
  · exact .inr ⟨x, by rw [L2.upd_ne n]; exact h⟩
theorem RelS.hne (S : RelS g μ H st) (hp : H p = none) (h : a ∈ μ.h) : a ≠ p := fun z => by
  obtain ⟨_, u, e⟩ := S.hid a h
  rw [z, hp] at e; cases e
theorem RelS.out (S : RelS g μ H st) (hp : H p = none) : μ.out p := ⟨S.fresh hp, fun h => S.hne hp h rfl⟩
theorem le_new (S : RelS g μ H st) (hp : H p = none) : Le μ H μ (upd H p o) := ⟨⟨fun _ _ h => h, fun a u n r _ => ⟨n, Rd.upd_ne r fun z => by
  obtain ⟨x, e⟩ := Rd.some r
  rw [z, hp] at e; cases e⟩, fun a vs _ h => by rw [L2.upd_ne (ne_of_none h hp)]; exact h⟩, rfl, fun a h => L2.upd_ne (S.hne hp h)⟩
theorem ext_new (hp : H p = none) : ∀ b u, H b = some u → upd H p o b = some u := fun b u e => by
  rw [L2.upd_ne (ne_of_none e hp)]
  exact e
theorem RelS.hid_new (S : RelS g μ H st) (hp : H p = none) : ∀ a ∈ μ.h, a ∉ μ.m ∧ ∃ vs : HidV, upd H p o a = some vs.ho := fun a h => by
  obtain ⟨n, u, e⟩ := S.hid a h
  exact ⟨n, u, ext_new hp a _ e⟩
theorem RelS.frz (S : RelS g μ H st) (hp : H p = none) : RelS g μ (upd H p o) st := ⟨S.len, S.nd, S.hid_new hp, fun n a so h1 h2 => by
  have r := S.at_ n a so h1 h2
  obtain ⟨u, e, _⟩ := r.there
  exact r.move (le_new S hp).toLw ((ext_new hp a u e).trans e.symm), S.tabs.ext (ext_new hp)⟩
/-- one more thing in the store -/
def Mp.add (μ : Mp) (p : Addr) : Mp := ⟨μ.m ++ [p], μ.h⟩
theorem le_new' (S : RelS g μ H st) (hp : H p = none) : Le μ H (μ.add p) (upd H p o) := by
  refine ⟨⟨fun n a h => ?_, fun a u n r t => ?_, fun a vs _ h => by rw [L2.upd_ne (ne_of_none h hp)]; exact h⟩, rfl, fun a h => L2.upd_ne (S.hne hp h)⟩
  · show (μ.m ++ [p])[n]? = some a
    rw [List.getElem?_append_left (List.getElem?_eq_some_iff.mp h).1]
    exact h
  · have hn : a ≠ p := fun z => by
      obtain ⟨x, e⟩ := Rd.some r
      rw [z, hp] at e; cases e
    exact ⟨⟨by simp [Mp.add, n.1, hn], n.2⟩, Rd.upd_ne r hn⟩
theorem RelS.new (S : RelS g μ H st) (hp : H p = none) {so : SO} (r : RepO g (μ.add p) (upd H p o) p so) : RelS g (μ.add p) (upd H p o) (st ++ [so]) := by
  refine ⟨by simp [Mp.add, S.len], ?_, fun a h => ?_, fun n a s h1 h2 => ?_, S.tabs.ext (ext_new hp)⟩
  · show (μ.m ++ [p]).Nodup
    rw [List.nodup_append]
    exact ⟨S.nd, by simp, fun x hx y hy z => S.fresh hp (by rw [List.mem_singleton.mp hy] at z; rw [← z]; exact hx)⟩
  · obtain ⟨n, u, e⟩ := S.hid a h
    exact ⟨by simp [Mp.add, n, S.hne hp h], u, ext_new hp a _ e⟩
  · have h1 : (μ.m ++ [p])[n]? = some a := h1
    by_cases hn : n < μ.m.length
    · rw [List.getElem?_append_left hn] at h1
      rw [List.getElem?_append_left (by rw [← S.len]; exact hn)] at h2
      have q := S.at_ n a s h1 h2
      obtain ⟨u, e, _⟩ := q.there
      exact q.move (le_new' S hp).toLw ((ext_new hp a u e).trans e.symm)
    · have hn2 : n = μ.m.length := by
        have := (List.getElem?_eq_some_iff.mp h1).1
        simp at this
        omega
      subst hn2
      simp at h1
      rw [S.len] at h2
      simp at h2
      subst h1 h2
      exact r
/-- a thing of the store is written -/
theorem le_set (S : RelS g μ H st) (h : a ∈ μ.m) : Le μ H μ (upd H a o) := ⟨⟨fun _ _ h => h, fun b u n r _ => ⟨n, Rd.upd_ne r fun z => n.1 (by rw [z]; exact h)⟩, fun b vs n e => (L2.upd_ne fun z => n.1 (by rw [z]; exact h)).trans e⟩, rfl, fun b hb => L2.upd_ne fun z => (S.hid b hb).1 (by rw [z]; exact h)⟩
theorem nodup_inj {α : Type} : ∀ {l : List α} {n m : Nat} {a : α}, l.Nodup → l[n]? = some a → l[m]? = some a → n = m
  | [], _, _, _, _, h, _ => by simp at h
  | x :: l, 0, 0, _, _, _, _ => rfl
  | x :: l, 0, m + 1, a, nd, h, h' => by
    simp at h h'
    subst h
    exact absurd (List.mem_of_getElem? h') (List.nodup_cons.mp nd).1
  | x :: l, n + 1, 0, a, nd, h, h' => by
    simp at h h'
    subst h'
    exact absurd (List.mem_of_getElem? h) (List.nodup_cons.mp nd).1
  | x :: l, n + 1, m + 1, a, nd, h, h' => congrArg (· + 1) (nodup_inj (List.nodup_cons.mp nd).2 (by simpa using h) (by simpa using h'))
theorem RelS.set (S : RelS g μ H st) {n : Nat} (h : μ.m[n]? = some a) {so : SO} (r : RepO g μ (upd H a o) a so) : RelS g μ (upd H a o) (st.set n so) := by
  have hm : a ∈ μ.m := List.mem_of_getElem? h
  obtain ⟨w, ew, hw⟩ := S.mem hm
  refine ⟨by simp [S.len], S.nd, fun b hb => ?_, fun m b s h1 h2 => ?_, ?_⟩
  · obtain ⟨n, u, e⟩ := S.hid b hb
    exact ⟨n, u, (L2.upd_ne fun z => n (by rw [z]; exact hm)).trans e⟩
  · by_cases hmn : n = m
    · subst hmn
      rw [h] at h1
      cases h1
      have hl : n < st.length := by
        rw [← S.len]
        exact (List.getElem?_eq_some_iff.mp h).1
      rw [List.getElem?_set_self hl] at h2
      cases h2
      exact r
    · rw [List.getElem?_set_ne hmn] at h2
      refine (S.at_ m b s h1 h2).move (le_set S hm).toLw (L2.upd_ne fun z => hmn ?_)
      subst z
      exact nodup_inj S.nd h h1
  · intro q hq
    obtain ⟨ps, h1, h2, h3⟩ := S.tabs q hq
    have n1 : q.1 ≠ a := fun z => by
      rw [z, ew] at h1
      cases h1
      exact hw
    refine ⟨ps, by rw [L2.upd_ne n1]; exact h1, h2, fun pos cv hc => ?_⟩
    obtain ⟨c, e1, e2⟩ := h3 pos cv hc
    refine ⟨c, e1, (L2.upd_ne ?_).trans e2⟩
    intro z
    rw [z, ew] at e2
    cases h9 : w with
    | ext φ =>
      -- an ext is no thing of the store
      rw [h9] at ew
      obtain ⟨m, hm2⟩ := List.mem_iff_getElem?.mp hm
      have hl : m < st.length := by
        rw [← S.len]
        exact (List.getElem?_eq_some_iff.mp hm2).1
      have q3 := S.at_ m a _ hm2 (List.getElem?_eq_getElem hl)
      cases h10 : st[m] with
      | lst ds => rw [h10] at q3; obtain ⟨vs, q4, _⟩ := q3; rw [ew] at q4; cases q4
      | dic ks ds =>
        rw [h10] at q3
        obtain ⟨vs, o4, q4, d4, _⟩ := q3
        rw [ew] at q4
        cases q4
        rcases d4 with ⟨_, _, d4⟩ | ⟨_, _, _, d4⟩ <;> cases d4
      | ins C fs => rw [h10] at q3; obtain ⟨dx, gs, q4, _⟩ := q3; rw [ew] at q4; cases q4
    | _ =>
      rw [h9] at e2
      unfold LamX.CodeO at e2
      cases e2
end

/-! ### what is wanted -/
def Post {α : Type} (g : GC) (W : WX) (σ : L2.St) (μ : Mp) (H : Hp) (r : R α) (P : Mp → Hp → α → Store → Prop) : Prop := match r with
  | .ok a st => ∀ μ' H', Le μ H μ' H' → RelS g μ' H' st → P μ' H' a st
  | .ex c st => ∀ μ' H', Le μ H μ' H' → RelS g μ' H' st → W (.ref (g.ga c)) none σ H'
  | .bad => False
section
variable {α β : Type} {g : GC} {W : WX} {σ : L2.St} {μ μ1 : Mp} {H H1 : Hp} {st : Store} {r : R α} {P P' : Mp → Hp → α → Store → Prop}
theorem Post.le (L : Le μ H μ1 H1) (h : Post g W σ μ H r P) : Post g W σ μ1 H1 r P := by
  cases r with
  | ok a st => exact fun μ' H' L' S => h μ' H' (L.trans L') S
  | ex c st => exact fun μ' H' L' S => h μ' H' (L.trans L') S
  | bad => exact h
theorem Post.imp (h : Post g W σ μ H r P) (hi : ∀ μ' H' a st, P μ' H' a st → P' μ' H' a st) : Post g W σ μ H r P' := by
  cases r with
  | ok a st => exact fun μ' H' L' S => hi _ _ _ _ (h μ' H' L' S)
  | ex c st => exact h
  | bad => exact h
theorem Post.here {a : α} (h : Post g W σ μ H (.ok a st) P) (S : RelS g μ H st) : P μ H a st := h μ H Le.refl S
end
abbrev VP (g : GC) (Q : VK) : Mp → Hp → D → Store → Prop := fun μ' H' d _ => ∀ v, Rep g μ' H' d v → Q v H'
def tDE (g : GC) (W : WX) (f : DE) : TE := fun σ H Q => ∃ μ env st, RelS g μ H st ∧ RelE g μ H env σ ∧ Post g W σ μ H (f env st) (VP g Q)
def tDT (g : GC) (W : WX) (f : DT) : TT := fun σ H Q => ∃ μ env st, RelS g μ H st ∧ RelE g μ H env σ ∧ Post g W σ μ H (f env st) (fun _ H' b _ => Q b H')
def tDA (g : GC) (W : WX) (f : DA) : TA := fun σ H Q => ∃ μ env st, RelS g μ H st ∧ RelE g μ H env σ ∧ Post g W σ μ H (f env st) (fun μ' H' ds _ => ∀ vs, Reps g μ' H' ds vs → Q vs H')
/-- an expression, a test, an argument list that does what f does -/
def PD (X : Cx) (g : GC) (W : WX) (e : Expr) (f : DE) : Prop := PE X e (tDE g W f)
def PTD (X : Cx) (g : GC) (W : WX) (e : Expr) (f : DT) : Prop := PT X e (tDT g W f)
def PAD (X : Cx) (g : GC) (W : WX) (es : List Expr) (f : DA) : Prop := PA X es (tDA g W f)
theorem PE.imp {X : Cx} {e : Expr} {t t' : TE} (h : PE X e t) (hi : ∀ σ H Q, t' σ H Q → t σ H Q) : PE X e t' := ⟨fun pins s σ H Q I q => h.run pins s σ H Q I (hi _ _ _ q)⟩
theorem PT.imp {X : Cx} {e : Expr} {t t' : TT} (h : PT X e t) (hi : ∀ σ H Q, t' σ H Q → t σ H Q) : PT X e t' := ⟨fun pins s σ H Q I q => h.run pins s σ H Q I (hi _ _ _ q)⟩
theorem PW.imp {X : Cx} {e : Expr} {t t' : TT} (h : PW X e t) (hi : ∀ σ H Q, t' σ H Q → t σ H Q) : PW X e t' := ⟨fun wh pins s σ H Q I q => h.run wh pins s σ H Q I (hi _ _ _ q)⟩
theorem PA.imp {X : Cx} {e : List Expr} {t t' : TA} (h : PA X e t) (hi : ∀ σ H Q, t' σ H Q → t σ H Q) : PA X e t' := ⟨fun pos pins s σ H Q I q => h.run pos pins s σ H Q I (hi _ _ _ q)⟩
theorem PS.imp {X : Cx} {e : Stmt} {t t' : TS} (h : PS X e t) (hi : ∀ D σ H, t' D σ H → t D σ H) : PS X e t' := ⟨fun pins s σ H D I q => h.run pins s σ H D I (hi _ _ _ q)⟩
theorem PSs.imp {X : Cx} {e : List Stmt} {t t' : TS} (h : PSs X e t) (hi : ∀ D σ H, t' D σ H → t D σ H) : PSs X e t' := ⟨fun pins s σ H D I q => h.run pins s σ H D I (hi _ _ _ q)⟩
section
variable {β : Type} {g : GC} {W : WX} {σ : L2.St} {μ : Mp} {H : Hp} {env : Env} {st : Store} {P : Mp → Hp → β → Store → Prop}
theorem bindE {f : DE} {k : D → Store → R β} (S : RelS g μ H st) (E : RelE g μ H env σ) (h : Post g W σ μ H ((f env st).bind k) P) {Rest : VK}
    (hk : ∀ μ1 H1 d st1 v, Le μ H μ1 H1 → RelS g μ1 H1 st1 → RelE g μ1 H1 env σ → Rep g μ1 H1 d v → Post g W σ μ1 H1 (k d st1) P → Rest v H1) : tDE g W f σ H Rest := by
  refine ⟨μ, env, st, S, E, ?_⟩
  generalize f env st = r at h ⊢
  cases r with
  | ok d st1 => exact fun μ1 H1 L S1 v rv => hk μ1 H1 d st1 v L S1 (E.le L) rv (Post.le L h)
  | ex c st1 => exact h
  | bad => exact h
theorem bindT {f : DT} {k : Bool → Store → R β} (S : RelS g μ H st) (E : RelE g μ H env σ) (h : Post g W σ μ H ((f env st).bind k) P) {Rest : Bool → Hp → Prop}
    (hk : ∀ μ1 H1 b st1, Le μ H μ1 H1 → RelS g μ1 H1 st1 → RelE g μ1 H1 env σ → Post g W σ μ1 H1 (k b st1) P → Rest b H1) : tDT g W f σ H Rest := by
  refine ⟨μ, env, st, S, E, ?_⟩
  generalize f env st = r at h ⊢
  cases r with
  | ok d st1 => exact fun μ1 H1 L S1 => hk μ1 H1 d st1 L S1 (E.le L) (Post.le L h)
  | ex c st1 => exact h
  | bad => exact h
theorem bindA {f : DA} {k : List D → Store → R β} (S : RelS g μ H st) (E : RelE g μ H env σ) (h : Post g W σ μ H ((f env st).bind k) P) {Rest : List V → Hp → Prop}
    (hk : ∀ μ1 H1 ds st1 vs, Le μ H μ1 H1 → RelS g μ1 H1 st1 → RelE g μ1 H1 env σ → Reps g μ1 H1 ds vs → Post g W σ μ1 H1 (k ds st1) P → Rest vs H1) : tDA g W f σ H Rest := by
  refine ⟨μ, env, st, S, E, ?_⟩
  generalize f env st = r at h ⊢
  cases r with
  | ok d st1 => exact fun μ1 H1 L S1 vs rv => hk μ1 H1 d st1 vs L S1 (E.le L) rv (Post.le L h)
  | ex c st1 => exact h
  | bad => exact h
end

/-! ### new lists, tuples -/
/-- a new list: of the store, or one that nobody changes -/
def mkL (b : Bool) (ds : List D) (st : Store) : R D := if b = true then .ok (.ref st.length) (st ++ [.lst ds]) else .ok (.lst ds) st
section
variable {g : GC} {W : WX} {σ : L2.St} {μ : Mp} {H : Hp} {st : Store} {Q : VK} {p : Addr}
theorem mkL_ok {b : Bool} {ds : List D} {vs : List V} (S : RelS g μ H st) (r : Reps g μ H ds vs) (h : Post g W σ μ H (mkL b ds st) (VP g Q)) (hp : H p = none) : Q (.ref p) (upd H p (.lst vs)) := by
  unfold mkL at h
  cases b with
  | true =>
    rw [if_pos rfl] at h
    refine h (μ.add p) _ (le_new' S hp) (S.new hp ⟨vs, upd_same, r.le (le_new' S hp)⟩) _ ⟨p, rfl, ?_⟩
    show (μ.m ++ [p])[st.length]? = some p
    rw [← S.len]
    simp
  | false =>
    rw [if_neg Bool.false_ne_true] at h
    exact h μ _ (le_new S hp) (S.frz hp) _ ⟨p, vs, rfl, ⟨S.out hp, upd_same⟩, r.le (le_new S hp)⟩
theorem mkT_ok {ds : List D} {vs : List V} (S : RelS g μ H st) (r : Reps g μ H ds vs) (h : Post g W σ μ H (.ok (.tup ds) st) (VP g Q)) (hp : H p = none) : Q (.ref p) (upd H p (.tup vs)) :=
  h μ _ (le_new S hp) (S.frz hp) _ ⟨p, vs, rfl, .inl ⟨S.out hp, .inl upd_same⟩, r.le (le_new S hp)⟩
end

/-! ### what stands around a piece of the program -/
structure Ok (X : Cx) (g : GC) (W : WX) (k : Nat) : Prop where
  hK : X.K = g.K
  tk : Takes X W
  hp : PassesOwn (model X.prog X.w) X.A X.env X.xe
  calm : X.calm = true
  nd : X.N.Nodup
  room : Room k X.A
theorem Ok.hu {X : Cx} {g : GC} {W : WX} {k : Nat} (O : Ok X g W k) : X.A.units + 64 < cLine := O.room.units

/-! ### names and constants -/
section
variable {X : Cx} {g : GC} {W : WX} {k : Nat} {pos : Pos}
def dVar (i : Nat) : DE := fun env st => match env[i]? with
  | some (some d) => .ok d st
  | _ => .bad
def dC (d : D) : DE := fun _ st => .ok d st
theorem pd_var (i : Nat) {x : Str} (hN : X.N[i]? = some x := by rfl) (hv : Vis X.env.scope x := by first | exact Or.inl rfl | exact Or.inr (Or.inl rfl) | exact Or.inr (Or.inr rfl)) (hd : (x == ("__debug__" : Str)) = false := by decide)
    (hcd : (x == ("__classdict__" : Str)) = false := by decide) : PD X g W (.Name x pos) (dVar i) := PE.imp (pe_var hN hv hd hcd) fun σ H Q ⟨μ, env, st, S, E, h⟩ => by
  unfold dVar at h
  split at h
  · rename_i d e
    obtain ⟨v, h1, h2⟩ := E.at_ i d e
    exact ⟨v, h1, h.here S v h2⟩
  · exact h.elim
theorem pd_int {i j} : PD X g W (.Constant (.int i) j pos) (dC (.int i)) := PE.imp pe_int fun σ H Q ⟨μ, env, st, S, E, h⟩ => h.here S _ rfl
theorem pd_bl {b j} : PD X g W (.Constant (.bool b) j pos) (dC (.bl b)) := PE.imp pe_bl fun σ H Q ⟨μ, env, st, S, E, h⟩ => h.here S _ rfl
theorem pd_non {j} : PD X g W (.Constant .none j pos) (dC .non) := PE.imp pe_non fun σ H Q ⟨μ, env, st, S, E, h⟩ => h.here S _ rfl
theorem pd_str {x j} : PD X g W (.Constant (.str x) j pos) (dC (.str x)) := PE.imp pe_str fun σ H Q ⟨μ, env, st, S, E, h⟩ => h.here S _ rfl
/-- what a constant of the module is -/
structure Glob (g : GC) (mg : Str → Option Value) (x : Str) (d : D) : Prop where
  is : ∃ u v, mg x = some u ∧ RelV v u ∧ ∀ μ H, Rep g μ H d v
theorem pd_glob {x : Str} {d : D} (G₀ : Glob g X.mg x d) (hg : Gl X x := by rfl) (hd : (x == ("__debug__" : Str)) = false := by decide) : PD X g W (.Name x pos) (dC d) := by
  obtain ⟨u, v, h1, h2, h3⟩ := G₀.is
  exact PE.imp (pe_glob hg h1 h2 hd) fun σ H Q ⟨μ, env, st, S, E, h⟩ => h.here S _ (h3 _ _)

/-! ### operators -/
def RV (g : GC) (W : WX) (r : R2) (h : D → D → Store → R D) : Prop := ∀ (σ : L2.St) (μ : Mp) (H : Hp) (st : Store) (x y : D) (v u : V) (Q : VK), RelS g μ H st → Rep g μ H x v → Rep g μ H y u → Post g W σ μ H (h x y st) (VP g Q) → r v u H Q
def OpD (X : Cx) (g : GC) (W : WX) (f : Value → Value → Sem Value) (h : D → D → Store → R D) : Prop := ∃ r, OpR X f r ∧ RV g W r h
def dBin (h : D → D → Store → R D) (fa fb : DE) : DE := fun env st => (fa env st).bind fun x st => (fb env st).bind fun y st => h x y st
theorem dBin_tOp {r : R2} {h : D → D → Store → R D} {fa fb : DE} (hr : RV g W r h) {σ : L2.St} {H : Hp} {Q : VK} (q : tDE g W (dBin h fa fb) σ H Q) : tOp r (tDE g W fa) (tDE g W fb) σ H Q := by
  obtain ⟨μ, env, st, S, E, h⟩ := q
  refine bindE S E h fun μ1 H1 d st1 v L1 S1 E1 r1 h1 => ?_
  refine bindE S1 E1 h1 fun μ2 H2 d2 st2 v2 L2 S2 E2 r2 h2 => ?_
  exact hr σ μ2 H2 st2 d d2 v v2 Q S2 (r1.le L2) r2 h2
theorem pd_bin {a b : Expr} {fa fb : DE} {op : Operator} {h : D → D → Store → R D} (ho : OpD X g W (binaryOp op) h) (ha : PD X g W a fa) (hb : PD X g W b fb) : PD X g W (.BinOp a op b pos) (dBin h fa fb) := by
  obtain ⟨r, h1, h2⟩ := ho
  exact PE.imp (pe_op h1 ha hb) fun σ H Q q => dBin_tOp h2 q
theorem pd_cmp {a b : Expr} {fa fb : DE} {op : CmpOp} {h : D → D → Store → R D} (ho : OpD X g W (compareOp op) h) (ha : PD X g W a fa) (hb : PD X g W b fb) (hm : behindInMarks op b = false := by first | exact nomark _ | rfl) : PD X g W (.Compare a [op] [b] pos) (dBin h fa fb) := by
  obtain ⟨r, h1, h2⟩ := ho
  exact PE.imp (pe_cmpR h1 ha hb hm) fun σ H Q q => dBin_tOp h2 q
/-- a value that is True or False, as a test -/
def dB (f : DE) : DT := fun env st => (f env st).bind fun d st => match d with
  | .bl b => .ok b st
  | _ => .bad
theorem dB_ok {f : DE} {σ : L2.St} {H : Hp} {Q : Bool → Hp → Prop} (q : tDT g W (dB f) σ H Q) : tDE g W f σ H fun x H' => ∃ k, x = .bl k ∧ Q k H' := by
  obtain ⟨μ, env, st, S, E, h⟩ := q
  refine bindE S E h fun μ1 H1 d st1 v L1 S1 E1 r1 h1 => ?_
  cases d with
  | bl b => exact ⟨b, r1, h1.here S1⟩
  | _ => exact h1.elim
theorem pt_cmp {a b : Expr} {fa fb : DE} {op : CmpOp} {h : D → D → Store → R D} (ho : OpD X g W (compareOp op) h) (ha : PD X g W a fa) (hb : PD X g W b fb) (hm : behindInMarks op b = false := by first | exact nomark _ | rfl) : PTD X g W (.Compare a [op] [b] pos) (dB (dBin h fa fb)) := by
  obtain ⟨r, h1, h2⟩ := ho
  exact PT.imp (pt_cmpR h1 ha hb hm) fun σ H Q q => dBin_tOp h2 (dB_ok q)
/-- a < b < c -/
def dChain (h h' : D → D → Store → R D) (fa fb fc : DE) : DE := fun env st => (fa env st).bind fun x st => (fb env st).bind fun y st => (h x y st).bind fun z st => match z with
  | .bl true => (fc env st).bind fun w st => h' y w st
  | .bl false => .ok (.bl false) st
  | _ => .bad
theorem dChain_ok {r r' : R2} {h h' : D → D → Store → R D} {fa fb fc : DE} (hr : RV g W r h) (hr' : RV g W r' h') {σ : L2.St} {H : Hp} {Q : VK} (q : tDE g W (dChain h h' fa fb fc) σ H Q) : tChain r r' (tDE g W fa) (tDE g W fb) (tDE g W fc) σ H Q := by
  obtain ⟨μ, env, st, S, E, h0⟩ := q
  refine bindE S E h0 fun μ1 H1 d st1 v L1 S1 E1 r1 h1 => ?_
  refine bindE S1 E1 h1 fun μ2 H2 d2 st2 v2 L2 S2 E2 r2 h2 => ?_
  refine hr σ μ2 H2 st2 d d2 v v2 _ S2 (r1.le L2) r2 ?_
  generalize h d d2 st2 = rr at h2 ⊢
  cases rr with
  | ex c st => exact h2
  | bad => exact h2
  | ok z st3 =>
    intro μ3 H3 L3 S3 w rw_
    have h3 := Post.le L3 h2
    cases z with
    | bl b =>
      refine ⟨b, rw_, ?_⟩
      cases b with
      | true =>
        rw [if_pos rfl]
        refine bindE S3 (E2.le L3) h3 fun μ4 H4 d4 st4 v4 L4 S4 E4 r4 h4 => ?_
        exact hr' σ μ4 H4 st4 d2 d4 v2 v4 Q S4 (r2.le (L3.trans L4)) r4 h4
      | false =>
        rw [if_neg Bool.false_ne_true]
        exact (show Post g W σ μ3 H3 (.ok (.bl false) st3) (VP g Q) from h3).here S3 _ rfl
    | _ => exact h3.elim
theorem pd_chain {a b c : Expr} {fa fb fc : DE} {op op' : CmpOp} {h h' : D → D → Store → R D} (ho : OpD X g W (compareOp op) h) (ho' : OpD X g W (compareOp op') h') (ha : PD X g W a fa) (hb : PD X g W b fb) (hc : PD X g W c fc)
    (hm : lastMarks [op, op'] [b, c] = false := by with_unfolding_all rfl) : PD X g W (.Compare a [op, op'] [b, c] pos) (dChain h h' fa fb fc) := by
  obtain ⟨r, h1, h2⟩ := ho
  obtain ⟨r', h1', h2'⟩ := ho'
  exact PE.imp (pe_chain h1 h1' ha hb hc hm) fun σ H Q q => dChain_ok h2 h2' q
end
end G

namespace G
open PySem L2
/-! ### what a list, a tuple holds -/
def lstAt (st : Store) (n : Nat) : Option (List D) := match st[n]? with
  | some (.lst ds) => some ds
  | _ => none
theorem lstAt_eq {st : Store} {n : Nat} {ds : List D} (h : lstAt st n = some ds) : st[n]? = some (.lst ds) := by
  unfold lstAt at h
  split at h
  · rename_i e
    cases h
    exact e
  · cases h
def seqL (st : Store) : D → Option (List D)
  | .lst ds => some ds
  | .ref n => lstAt st n
  | .scr ns => some (ns.map .int)
  | _ => none
def seqT : D → Option (List D)
  | .tup ds => some ds
  | _ => none
def seqA (st : Store) : D → Option (List D)
  | .tup ds => some ds
  | d => seqL st d
/-- .. that is no list of the written part -/
def seqR (st : Store) : D → Option (List D)
  | .lst ds => some ds
  | .ref n => lstAt st n
  | _ => none
def intsD : List D → Option (List Int)
  | [] => some []
  | .int i :: r => (intsD r).map (i :: ·)
  | _ :: _ => none
@[simp] theorem ints_map : ∀ ns : List Int, intsD (ns.map .int) = some ns
  | [] => rfl
  | n :: ns => by rw [List.map_cons, intsD, ints_map ns]; rfl
section
variable {g : GC} {μ : Mp} {H : Hp} {st : Store} {d : D} {ds : List D} {v : V}
theorem reps_ints : ∀ (ns : List Int), Reps g μ H (ns.map .int) (ns.map V.int)
  | [] => rfl
  | n :: ns => ⟨.int n, _, rfl, rfl, reps_ints ns⟩
theorem ints_ok : ∀ {ds : List D} {ns : List Int} {vs : List V}, intsD ds = some ns → Reps g μ H ds vs → vs = ns.map V.int
  | [], ns, vs, e, r => by cases e; exact r
  | d :: ds, ns, vs, e, r => by
    obtain ⟨v, vr, e1, r1, r2⟩ := r
    cases d with
    | int i =>
      have e : (intsD ds).map (i :: ·) = some ns := e
      cases q : intsD ds with
      | none => rw [q] at e; cases e
      | some ms =>
        rw [q] at e
        cases e
        rw [e1, show v = V.int i from r1, ints_ok q r2] <;> rfl
    | _ => cases e
theorem rd_l {a : Addr} {vs : List V} (h : Rd H a (.lst vs)) : SqL g.K H a vs := .inl h
theorem seqL_ok (S : RelS g μ H st) (r : Rep g μ H d v) (e : seqL st d = some ds) : ∃ a vs, v = .ref a ∧ SqL g.K H a vs ∧ Reps g μ H ds vs := by
  cases d with
  | lst xs =>
    cases e
    obtain ⟨a, vs, e, ⟨_, h⟩, r⟩ := r
    exact ⟨a, vs, e, .inl (.inl h), r⟩
  | ref n =>
    obtain ⟨a, e1, h⟩ := r
    obtain ⟨vs, h1, h2⟩ := S.at_ n a _ h (lstAt_eq e)
    exact ⟨a, vs, e1, .inl (.inl h1), h2⟩
  | scr ns =>
    cases e
    obtain ⟨a, e, h⟩ := r
    refine ⟨a, _, e, ?_, reps_ints ns⟩
    rcases h with ⟨_, h⟩ | h
    · exact .inl h
    · exact .inr h
  | _ => cases e
theorem seqR_ok (S : RelS g μ H st) (r : Rep g μ H d v) (e : seqR st d = some ds) : ∃ a vs, v = .ref a ∧ H a = some (.lst vs) ∧ Reps g μ H ds vs := by
  cases d with
  | lst xs =>
    cases e
    obtain ⟨a, vs, e, ⟨_, h⟩, r⟩ := r
    exact ⟨a, vs, e, h, r⟩
  | ref n =>
    obtain ⟨a, e1, h⟩ := r
    obtain ⟨vs, h1, h2⟩ := S.at_ n a _ h (lstAt_eq e)
    exact ⟨a, vs, e1, h1, h2⟩
  | _ => cases e
theorem seqT_ok (r : Rep g μ H d v) (e : seqT d = some ds) : ∃ a vs, v = .ref a ∧ SqT g.K H a vs ∧ Reps g μ H ds vs := by
  cases d with
  | tup xs =>
    cases e
    obtain ⟨a, vs, e, h, r⟩ := r
    refine ⟨a, vs, e, ?_, r⟩
    rcases h with ⟨_, h⟩ | h
    · exact .inl h
    · exact .inr h
  | _ => cases e
theorem seqA_ok (S : RelS g μ H st) (r : Rep g μ H d v) (e : seqA st d = some ds) : ∃ a vs, v = .ref a ∧ (SqL g.K H a vs ∨ SqT g.K H a vs) ∧ Reps g μ H ds vs := by
  cases d with
  | tup xs =>
    obtain ⟨a, vs, h1, h2, h3⟩ := seqT_ok (d := .tup xs) r e
    exact ⟨a, vs, h1, .inr h2, h3⟩
  | _ =>
    obtain ⟨a, vs, h1, h2, h3⟩ := seqL_ok S r e
    exact ⟨a, vs, h1, .inl h2, h3⟩
end

theorem sizeLine_le {n : Nat} (h : n ≤ 16777216) : n ≤ sizeLine := by
  rw [sizeLine_eq]
  exact h

/-! ### the operators, on data -/
def aAdd (b : Bool) : D → D → Store → R D
  | .int i, .int j, st => .ok (.int (i + j)) st
  | .str x, .str y, st => if x.length + y.length ≤ 16777216 then .ok (.str (x ++ y)) st else .bad
  | .tup xs, .tup ys, st => if xs.length + ys.length ≤ 16777216 then .ok (.tup (xs ++ ys)) st else .bad
  | x, y, st => match seqR st x, seqR st y with
    | some xs, some ys => if xs.length + ys.length ≤ 16777216 then mkL b (xs ++ ys) st else .bad
    | _, _ => .bad
def aSub : D → D → Store → R D
  | .int i, .int j, st => .ok (.int (i - j)) st
  | _, _, _ => .bad
def okMul (i j : Int) : Bool := decide (-18446744073709551616 < i ∧ i < 18446744073709551616) || decide (-18446744073709551616 < j ∧ j < 18446744073709551616)
def aMul (b : Bool) : D → D → Store → R D
  | .int i, .int j, st => if okMul i j = true then .ok (.int (i * j)) st else .bad
  | .lst xs, .int k, st => if decide (-9223372036854775808 ≤ k) && decide (k < 9223372036854775808) && decide (xs.length * k.toNat ≤ 16777216) then mkL b (List.replicate k.toNat xs).flatten st else .bad
  | _, _, _ => .bad
def aFdiv : D → D → Store → R D
  | .int i, .int j, st => if j ≠ 0 ∧ j.natAbs < 1073741824 then .ok (.int (i.fdiv j)) st else .bad
  | _, _, _ => .bad
def aMod : D → D → Store → R D
  | .int i, .int j, st => if j ≠ 0 then .ok (.int (i.fmod j)) st else .bad
  | _, _, _ => .bad
def aPow : D → D → Store → R D
  | .int i, .int j, st => if 0 ≤ j ∧ j ≤ 1000000 ∧ i.natAbs < 18446744073709551616 then .ok (.int (i ^ j.toNat)) st else .bad
  | _, _, _ => .bad
def aLt : D → D → Store → R D
  | .int i, .int j, st => .ok (.bl (decide (i < j))) st
  | .tup xs, .tup ys, st => match intsD xs, intsD ys with
    | some ns, some ms => .ok (.bl (HT.lexLt ns ms)) st
    | _, _ => .bad
  | .str x, .str y, st => .ok (.bl (decide (x.cps.toList < y.cps.toList))) st
  | _, _, _ => .bad
def aLe : D → D → Store → R D
  | .int i, .int j, st => .ok (.bl (decide (i ≤ j))) st
  | _, _, _ => .bad
def aGt : D → D → Store → R D
  | .int i, .int j, st => .ok (.bl (decide (j < i))) st
  | _, _, _ => .bad
def aGe : D → D → Store → R D
  | .int i, .int j, st => .ok (.bl (decide (j ≤ i))) st
  | _, _, _ => .bad
/-- is None -/
def D.isNon : D → Bool
  | .non => true
  | _ => false
def aIsN : D → D → Store → R D
  | x, .non, st => .ok (.bl x.isNon) st
  | _, _, _ => .bad
def aNotN : D → D → Store → R D
  | x, .non, st => .ok (.bl (!x.isNon)) st
  | _, _, _ => .bad
section
variable {g : GC} {μ : Mp} {H : Hp}
theorem isNon_ok {d : D} {v : V} (r : Rep g μ H d v) : decide (v = .non) = d.isNon := by
  cases d with
  | non => rw [show v = .non from r] <;> rfl
  | bl b => rw [show v = .bl b from r] <;> rfl
  | int b => rw [show v = .int b from r] <;> rfl
  | str b => rw [show v = .str b from r] <;> rfl
  | tup ds => obtain ⟨a, vs, e, _⟩ := r; rw [e] <;> rfl
  | lst ds => obtain ⟨a, vs, e, _⟩ := r; rw [e] <;> rfl
  | dic ks ds => obtain ⟨a, vs, o, e, _⟩ := r; rw [e] <;> rfl
  | ref n => obtain ⟨a, e, _⟩ := r; rw [e] <;> rfl
  | fn x => rw [show v = .ref _ from r] <;> rfl
  | lam n => obtain ⟨a, _, _, _, _, e, _⟩ := r; rw [e] <;> rfl
  | scr ns => obtain ⟨a, e, _⟩ := r; rw [e] <;> rfl
end

/-! ### == -/
mutual
def D.eqv : D → D → Bool
  | .non, .non => true
  | .bl a, .bl b => a == b
  | .bl a, .int j => (if a then 1 else 0) == j
  | .int i, .bl b => i == (if b then 1 else 0)
  | .int i, .int j => i == j
  | .str x, .str y => x == y
  | .lst xs, .lst ys => D.eqvs xs ys
  | .tup xs, .tup ys => D.eqvs xs ys
  | _, _ => false
def D.eqvs : List D → List D → Bool
  | [], [] => true
  | x :: xs, y :: ys => D.eqv x y && D.eqvs xs ys
  | _, _ => false
end
mutual
/-- None, bools, intsD, texts, lists and tuples of such -/
def D.dat : D → Bool
  | .non => true
  | .bl _ => true
  | .int _ => true
  | .str x => x.cps.all (· < 0x110000)
  | .lst xs => D.dats xs
  | .tup xs => D.dats xs
  | _ => false
def D.dats : List D → Bool
  | [] => true
  | x :: xs => D.dat x && D.dats xs
end
mutual
def D.dep : D → Nat
  | .lst xs => D.deps xs + 1
  | .tup xs => D.deps xs + 1
  | _ => 0
def D.deps : List D → Nat
  | [] => 0
  | x :: xs => max (D.dep x) (D.deps xs)
end
mutual
def D.py : D → PyData
  | .non => .none
  | .bl b => .bool b
  | .int i => .int i
  | .str x => .str x
  | .lst xs => .list (D.pys xs)
  | .tup xs => .tuple (D.pys xs)
  | _ => .none
def D.pys : List D → List PyData
  | [] => []
  | x :: xs => D.py x :: D.pys xs
end
section
variable {g : GC} {μ : Mp} {H : Hp}
mutual
theorem py_can : ∀ {d : D}, d.dat = true → (D.py d).canLay0 = true
  | .non, _ => rfl
  | .bl _, _ => rfl
  | .int _, _ => rfl
  | .str x, h => h
  | .lst xs, h => by
    have h : D.dats xs = true := h
    exact pys_can h
  | .tup xs, h => by
    have h : D.dats xs = true := h
    exact pys_can h
  | .dic _ _, h => nomatch h
  | .ref _, h => nomatch h
  | .fn _, h => nomatch h
  | .lam _, h => nomatch h
  | .scr _, h => nomatch h
theorem pys_can : ∀ {ds : List D}, D.dats ds = true → PyData.canLayAll0 (D.pys ds) = true
  | [], _ => rfl
  | d :: ds, h => by
    have h : (D.dat d && D.dats ds) = true := h
    rw [Bool.and_eq_true] at h
    show ((D.py d).canLay0 && PyData.canLayAll0 (D.pys ds)) = true
    rw [py_can h.1, pys_can h.2] <;> rfl
end
mutual
theorem py_dep : ∀ (d : D), (D.py d).depth = d.dep
  | .non => rfl
  | .bl _ => rfl
  | .int _ => rfl
  | .str x => rfl
  | .lst xs => congrArg (· + 1) (pys_dep xs)
  | .tup xs => congrArg (· + 1) (pys_dep xs)
  | .dic _ _ => rfl
  | .ref _ => rfl
  | .fn _ => rfl
  | .lam _ => rfl
  | .scr _ => rfl
theorem pys_dep : ∀ (ds : List D), PyData.depthAll (D.pys ds) = D.deps ds
  | [] => rfl
  | d :: ds => by
    show max (D.py d).depth (PyData.depthAll (D.pys ds)) = max d.dep (D.deps ds)
    rw [py_dep d, pys_dep ds]
end
mutual
theorem py_eqv : ∀ (d e : D), d.dat = true → e.dat = true → PyData.eqv (D.py d) (D.py e) = D.eqv d e
  | .non, e, _, h => by cases e <;> first | rfl | cases h
  | .bl _, e, _, h => by cases e <;> first | rfl | cases h
  | .int _, e, _, h => by cases e <;> first | rfl | cases h
  | .str x, e, _, h => by cases e <;> first | rfl | cases h
  | .lst xs, e, q, h => by
    cases e <;> first
      | exact pys_eqv xs _ q h
      | rfl
      | cases h
  | .tup xs, e, q, h => by
    cases e <;> first
      | exact pys_eqv xs _ q h
      | rfl
      | cases h
  | .dic _ _, _, h, _ => nomatch h
  | .ref _, _, h, _ => nomatch h
  | .fn _, _, h, _ => nomatch h
  | .lam _, _, h, _ => nomatch h
  | .scr _, _, h, _ => nomatch h
theorem pys_eqv : ∀ (ds es : List D), D.dats ds = true → D.dats es = true → PyData.eqvAll (D.pys ds) (D.pys es) = D.eqvs ds es
  | [], [], _, _ => rfl
  | [], _ :: _, _, _ => rfl
  | _ :: _, [], _, _ => rfl
  | d :: ds, e :: es, h, h' => by
    have h : (D.dat d && D.dats ds) = true := h
    have h' : (D.dat e && D.dats es) = true := h'
    rw [Bool.and_eq_true] at h h'
    show (PyData.eqv (D.py d) (D.py e) && PyData.eqvAll (D.pys ds) (D.pys es)) = (D.eqv d e && D.eqvs ds es)
    rw [py_eqv d e h.1 h'.1, pys_eqv ds es h.2 h'.2]
end
mutual
theorem py_dp : ∀ {d : D} {v : V}, d.dat = true → Rep g μ H d v → Dp g.K H v (D.py d)
  | .non, v, _, r => by rw [show v = .non from r]; exact .non
  | .bl b, v, _, r => by rw [show v = .bl b from r]; exact .bl b
  | .int i, v, _, r => by rw [show v = .int i from r]; exact .int i
  | .str x, v, _, r => by rw [show v = .str x from r]; exact .str x
  | .lst xs, v, h, r => by
    obtain ⟨a, vs, e, ⟨_, h1⟩, h2⟩ := r
    rw [e]
    exact .lst (.inl (.inl h1)) (pys_dp h h2)
  | .tup xs, v, h, r => by
    obtain ⟨a, vs, e, h1, h2⟩ := r
    rw [e]
    refine .tup ?_ (pys_dp h h2)
    rcases h1 with ⟨_, h⟩ | h
    · exact .inl h
    · exact .inr h
  | .dic _ _, _, h, _ => nomatch h
  | .ref _, _, h, _ => nomatch h
  | .fn _, _, h, _ => nomatch h
  | .lam _, _, h, _ => nomatch h
  | .scr _, _, h, _ => nomatch h
theorem pys_dp : ∀ {ds : List D} {vs : List V}, D.dats ds = true → Reps g μ H ds vs → DpAll g.K H vs (D.pys ds)
  | [], vs, _, r => by rw [show vs = [] from r]; exact .nil
  | d :: ds, vs, h, r => by
    have h : (D.dat d && D.dats ds) = true := h
    rw [Bool.and_eq_true] at h
    obtain ⟨v, vr, e, h1, h2⟩ := r
    rw [e]
    exact .cons (py_dp h.1 h1) (pys_dp h.2 h2)
end
end
def D.isStr : D → Bool
  | .str _ => true
  | _ => false
def D.isSc : D → Bool
  | .non => true
  | .bl _ => true
  | .int _ => true
  | .str _ => true
  | _ => false
/-- a list of the store, as a list -/
def norm (st : Store) : D → D
  | .ref n => match lstAt st n with
    | some ds => .lst ds
    | none => .ref n
  | .scr ns => .lst (ns.map .int)
  | d => d
/-- what == asks -/
def okEq (x y : D) : Bool := (x.isSc && y.isSc && (x.isStr || y.isStr)) || (x.dat && y.dat && decide (x.dep ≤ 64) && decide (y.dep ≤ 64))
def aEq (x y : D) (st : Store) : R D := if okEq (norm st x) (norm st y) = true then .ok (.bl (D.eqv (norm st x) (norm st y))) st else .bad
def aNe (x y : D) (st : Store) : R D := if okEq (norm st x) (norm st y) = true then .ok (.bl (!D.eqv (norm st x) (norm st y))) st else .bad
section
variable {g : GC} {μ : Mp} {H : Hp} {st : Store}
theorem norm_dp (S : RelS g μ H st) {d : D} {v : V} (h : (norm st d).dat = true) (r : Rep g μ H d v) : Dp g.K H v (D.py (norm st d)) := by
  cases d with
  | ref n =>
    obtain ⟨a, e1, h1⟩ := r
    cases q : lstAt st n with
    | none => simp only [norm, q] at h; cases h
    | some xs =>
      simp only [norm, q] at h ⊢
      obtain ⟨vs, h2, h3⟩ := S.at_ n a _ h1 (lstAt_eq q)
      rw [e1]
      exact .lst (.inl (.inl h2)) (pys_dp h h3)
  | scr ns =>
    obtain ⟨a, e1, h1⟩ := r
    rw [e1]
    refine .lst ?_ (pys_dp (g := g) (μ := μ) (H := H) h (reps_ints ns))
    rcases h1 with ⟨_, h⟩ | h
    · exact .inl h
    · exact .inr h
  | _ => exact py_dp h r
theorem norm_sc {d : D} {v : V} (h : (norm st d).isSc = true) (r : Rep g μ H d v) : Rep g μ H (norm st d) v := by
  cases d with
  | ref n =>
    cases q : lstAt st n with
    | none => simp only [norm, q] at h; cases h
    | some so => simp only [norm, q] at h; cases h
  | scr ns => cases h
  | _ => exact r
theorem sc_eq {x y : D} {v u : V} (hx : x.isSc = true) (hy : y.isSc = true) (hs : (x.isStr || y.isStr) = true) (r : Rep g μ H x v) (q : Rep g μ H y u) : scal v u = true ∧ decide (v = u) = D.eqv x y := by
  have st_ : ∀ a b : Str, decide (V.str a = V.str b) = (a == b) := fun a b => dec_str
  cases x with
  | non =>
    rw [show v = .non from r]
    cases y with
    | str b => rw [show u = .str b from q]; exact ⟨rfl, rfl⟩
    | _ => first | cases hs | cases hy
  | bl a =>
    rw [show v = .bl a from r]
    cases y with
    | str b => rw [show u = .str b from q]; exact ⟨rfl, rfl⟩
    | _ => first | cases hs | cases hy
  | int a =>
    rw [show v = .int a from r]
    cases y with
    | str b => rw [show u = .str b from q]; exact ⟨rfl, rfl⟩
    | _ => first | cases hs | cases hy
  | str a =>
    rw [show v = .str a from r]
    cases y with
    | non => rw [show u = .non from q]; exact ⟨rfl, rfl⟩
    | bl b => rw [show u = .bl b from q]; exact ⟨rfl, rfl⟩
    | int b => rw [show u = .int b from q]; exact ⟨rfl, rfl⟩
    | str b => rw [show u = .str b from q]; exact ⟨rfl, st_ a b⟩
    | _ => cases hy
  | _ => cases hx
end

/-! ### they do so -/
section
variable {X : Cx} {g : GC} {W : WX} {k : Nat}
theorem len_nil {μ : Mp} {H : Hp} {ds : List D} {vs : List V} (r : Reps g μ H ds vs) (h : vs = []) : ds = [] := by
  have := r.len
  rw [h] at this
  exact List.eq_nil_of_length_eq_zero this
theorem oAdd {b : Bool} (O : Ok X g W k) : OpD X g W (binaryOp .Add) (aAdd b) := by
  refine ⟨_, (op_add.or op_add_str).or ((op_catA).or op_cat), ?_⟩
  intro σ μ H st x y v u Q S rx ry h
  unfold aAdd at h
  split at h
  · exact .inl (.inl ⟨_, _, rx, ry, h.here S _ rfl⟩)
  · split at h
    · rename_i hl
      exact .inl (.inr ⟨_, _, rx, ry, sizeLine_le hl, h.here S _ rfl⟩)
    · exact h.elim
  · split at h
    · rename_i xs ys hl
      obtain ⟨a, vs, e1, h1, r1⟩ := seqT_ok rx rfl
      obtain ⟨a2, vs2, e2, h2, r2⟩ := seqT_ok ry rfl
      refine .inr (.inl ?_)
      rw [O.hK]
      refine ⟨a, a2, vs, vs2, e1, e2, h1, h2, sizeLine_le (by rw [← r1.len, ← r2.len]; exact hl), fun z => ?_, fun _ z => ?_, fun _ _ p hp => mkT_ok S (r1.append r2) h hp⟩
      · have e := len_nil r1 z
        subst e e2
        exact h.here S _ ry
      · have e := len_nil r2 z
        subst e e1
        rw [List.append_nil] at h
        exact h.here S _ rx
    · exact h.elim
  · split at h
    · rename_i xs ys e1 e2
      split at h
      · rename_i hl
        obtain ⟨a, vs, e1, h1, r1⟩ := seqR_ok S rx e1
        obtain ⟨a2, vs2, e2, h2, r2⟩ := seqR_ok S ry e2
        exact .inr (.inr ⟨a, a2, vs, vs2, e1, e2, h1, h2, sizeLine_le (by rw [← r1.len, ← r2.len]; exact hl), fun p hp => mkL_ok S (r1.append r2) h hp⟩)
      · exact h.elim
    · exact h.elim
/-- two ints in, a value out -/
theorem oI {f : Value → Value → Sem Value} {q : Int → Int → V} {h : D → D → Store → R D} (ho : OpR X f (rI0 q)) (q' : Int → Int → D) (hq : ∀ i j μ H, Rep g μ H (q' i j) (q i j)) (h1 : ∀ i j st, h (.int i) (.int j) st = .ok (q' i j) st)
    (h2 : ∀ x y st, (∀ i j, ¬ (x = .int i ∧ y = .int j)) → h x y st = .bad) : OpD X g W f h := by
  refine ⟨_, ho, fun σ μ H st x y v u Q S rx ry hh => ?_⟩
  by_cases e : ∃ i j, x = .int i ∧ y = .int j
  · obtain ⟨i, j, rfl, rfl⟩ := e
    rw [h1] at hh
    exact ⟨i, j, rx, ry, hh.here S _ (hq _ _ _ _)⟩
  · rw [h2 x y st fun i j q => e ⟨i, j, q⟩] at hh
    exact hh.elim
theorem oSub : OpD X g W (binaryOp .Sub) aSub := oI op_sub (fun i j => .int (i - j)) (fun _ _ _ _ => rfl) (fun _ _ _ => rfl) fun x y st h => by
  unfold aSub
  split
  · exact absurd ⟨rfl, rfl⟩ (h _ _)
  · rfl
theorem okMul_ok {i j : Int} (h : okMul i j = true) : CMul i j := by
  unfold okMul at h
  rw [Bool.or_eq_true] at h
  rcases h with h | h
  · exact .inl (of_decide_eq_true h)
  · exact .inr (of_decide_eq_true h)
theorem reps_rep {μ : Mp} {H : Hp} {ds : List D} {vs : List V} (r : Reps g μ H ds vs) : ∀ n : Nat, Reps g μ H (List.replicate n ds).flatten (List.replicate n vs).flatten
  | 0 => rfl
  | n + 1 => by
    rw [List.replicate_succ, List.replicate_succ, List.flatten_cons, List.flatten_cons]
    exact r.append (reps_rep r n)
theorem oMul {b : Bool} : OpD X g W (binaryOp .Mult) (aMul b) := by
  refine ⟨_, op_mul.or op_rep, fun σ μ H st x y v u Q S rx ry h => ?_⟩
  unfold aMul at h
  split at h
  · split at h
    · rename_i hm
      exact .inl ⟨_, _, rx, ry, okMul_ok hm, h.here S _ rfl⟩
    · exact h.elim
  · split at h
    · rename_i xs k hm
      simp only [Bool.and_eq_true, decide_eq_true_eq] at hm
      obtain ⟨⟨h1, h2⟩, h3⟩ := hm
      obtain ⟨a, vs, e1, ⟨_, hl⟩, r1⟩ := rx
      exact .inr ⟨a, k, vs, e1, ry, hl, h1, h2, sizeLine_le (by rw [← r1.len]; exact h3), fun p hp => mkL_ok S (reps_rep r1 _) h hp⟩
    · exact h.elim
  · exact h.elim
/-- two ints in under a condition -/
theorem oC {f : Value → Value → Sem Value} {C : Int → Int → Prop} {q : Int → Int → V} {h : D → D → Store → R D} (ho : OpR X f (rI C q)) (c : Int → Int → Prop) [∀ i j, Decidable (c i j)] (q' : Int → Int → D) (hq : ∀ i j μ H, Rep g μ H (q' i j) (q i j)) (hc : ∀ i j, c i j → C i j)
    (h1 : ∀ i j st, h (.int i) (.int j) st = if c i j then .ok (q' i j) st else .bad) (h2 : ∀ x y st, (∀ i j, ¬ (x = .int i ∧ y = .int j)) → h x y st = .bad) : OpD X g W f h := by
  refine ⟨_, ho, fun σ μ H st x y v u Q S rx ry hh => ?_⟩
  by_cases e : ∃ i j, x = .int i ∧ y = .int j
  · obtain ⟨i, j, rfl, rfl⟩ := e
    rw [h1] at hh
    split at hh
    · rename_i hcc
      exact ⟨i, j, rx, ry, hc _ _ hcc, hh.here S _ (hq _ _ _ _)⟩
    · exact hh.elim
  · rw [h2 x y st fun i j q => e ⟨i, j, q⟩] at hh
    exact hh.elim
theorem oFdiv : OpD X g W (binaryOp .FloorDiv) aFdiv := oC op_fdivN (fun i j => j ≠ 0 ∧ j.natAbs < 1073741824) (fun i j => .int (i.fdiv j)) (fun _ _ _ _ => rfl) (fun _ _ h => h) (fun _ _ _ => rfl) fun x y st h => by
  unfold aFdiv
  split
  · exact absurd ⟨rfl, rfl⟩ (h _ _)
  · rfl
theorem oMod : OpD X g W (binaryOp .Mod) aMod := oC op_modN (fun i j => j ≠ 0) (fun i j => .int (i.fmod j)) (fun _ _ _ _ => rfl) (fun _ _ h => h) (fun _ _ _ => rfl) fun x y st h => by
  unfold aMod
  split
  · exact absurd ⟨rfl, rfl⟩ (h _ _)
  · rfl
theorem oPow : OpD X g W (binaryOp .Pow) aPow := oC op_pow (fun i j => 0 ≤ j ∧ j ≤ 1000000 ∧ i.natAbs < 18446744073709551616) (fun i j => .int (i ^ j.toNat)) (fun _ _ _ _ => rfl) (fun _ _ h => h) (fun _ _ _ => rfl) fun x y st h => by
  unfold aPow
  split
  · exact absurd ⟨rfl, rfl⟩ (h _ _)
  · rfl
theorem oLt (O : Ok X g W k) : OpD X g W (compareOp .Lt) aLt := by
  refine ⟨_, (op_lt.or (op_ltT (by have := O.hu; omega))).or op_lt_str, fun σ μ H st x y v u Q S rx ry h => ?_⟩
  unfold aLt at h
  split at h
  · exact .inl (.inl ⟨_, _, rx, ry, h.here S _ rfl⟩)
  · split at h
    · rename_i xs ys ns ms h1 h2
      obtain ⟨a, vs, e1, q1, r1⟩ := seqT_ok rx rfl
      obtain ⟨a2, vs2, e2, q2, r2⟩ := seqT_ok ry rfl
      refine .inl (.inr ?_)
      rw [O.hK]
      rw [ints_ok h1 r1] at q1
      rw [ints_ok h2 r2] at q2
      exact ⟨a, a2, ns, ms, e1, e2, q1, q2, h.here S _ rfl⟩
    · exact h.elim
  · exact .inr ⟨_, _, rx, ry, h.here S _ rfl⟩
  · exact h.elim
theorem oLe : OpD X g W (compareOp .LtE) aLe := oI op_le (fun i j => .bl (decide (i ≤ j))) (fun _ _ _ _ => rfl) (fun _ _ _ => rfl) fun x y st h => by
  unfold aLe
  split
  · exact absurd ⟨rfl, rfl⟩ (h _ _)
  · rfl
theorem oGt : OpD X g W (compareOp .Gt) aGt := oI op_gt (fun i j => .bl (decide (j < i))) (fun _ _ _ _ => rfl) (fun _ _ _ => rfl) fun x y st h => by
  unfold aGt
  split
  · exact absurd ⟨rfl, rfl⟩ (h _ _)
  · rfl
theorem oGe : OpD X g W (compareOp .GtE) aGe := oI op_ge (fun i j => .bl (decide (j ≤ i))) (fun _ _ _ _ => rfl) (fun _ _ _ => rfl) fun x y st h => by
  unfold aGe
  split
  · exact absurd ⟨rfl, rfl⟩ (h _ _)
  · rfl
theorem oIsN : OpD X g W (compareOp .Is) aIsN := by
  refine ⟨_, op_isN, fun σ μ H st x y v u Q S rx ry h => ?_⟩
  unfold aIsN at h
  split at h
  · refine ⟨ry, ?_⟩
    rw [isNon_ok rx]
    exact h.here S _ rfl
  · exact h.elim
theorem oNotN : OpD X g W (compareOp .IsNot) aNotN := by
  refine ⟨_, op_notN, fun σ μ H st x y v u Q S rx ry h => ?_⟩
  unfold aNotN at h
  split at h
  · refine ⟨ry, ?_⟩
    rw [isNon_ok rx]
    exact h.here S _ rfl
  · exact h.elim
theorem oEq (O : Ok X g W k) : OpD X g W (compareOp .Eq) aEq := by
  refine ⟨_, op_eq.or (op_eqD O.hu), fun σ μ H st x y v u Q S rx ry h => ?_⟩
  unfold aEq at h
  split at h
  · rename_i ho
    have q := h.here S _ rfl
    unfold okEq at ho
    rw [Bool.or_eq_true] at ho
    rcases ho with ho | ho
    · rw [Bool.and_eq_true, Bool.and_eq_true] at ho
      obtain ⟨h1, h2⟩ := sc_eq ho.1.1 ho.1.2 ho.2 (norm_sc ho.1.1 rx) (norm_sc ho.1.2 ry)
      exact .inl ⟨h1, by rw [h2]; exact q⟩
    · simp only [Bool.and_eq_true, decide_eq_true_eq] at ho
      obtain ⟨⟨⟨d1, d2⟩, p1⟩, p2⟩ := ho
      refine .inr ?_
      rw [O.hK]
      refine ⟨_, _, norm_dp S d1 rx, norm_dp S d2 ry, ?_, ?_, ?_⟩
      · unfold SeqAt.shaped
        rw [py_can d1, py_dep, decide_eq_true p1] <;> rfl
      · unfold SeqAt.shaped
        rw [py_can d2, py_dep, decide_eq_true p2] <;> rfl
      · rw [py_eqv _ _ d1 d2]
        exact q
  · exact h.elim
theorem oNe (O : Ok X g W k) : OpD X g W (compareOp .NotEq) aNe := by
  refine ⟨_, op_ne.or (op_neD O.hu), fun σ μ H st x y v u Q S rx ry h => ?_⟩
  unfold aNe at h
  split at h
  · rename_i ho
    have q := h.here S _ rfl
    unfold okEq at ho
    rw [Bool.or_eq_true] at ho
    rcases ho with ho | ho
    · rw [Bool.and_eq_true, Bool.and_eq_true] at ho
      obtain ⟨h1, h2⟩ := sc_eq ho.1.1 ho.1.2 ho.2 (norm_sc ho.1.1 rx) (norm_sc ho.1.2 ry)
      exact .inl ⟨h1, by rw [h2]; exact q⟩
    · simp only [Bool.and_eq_true, decide_eq_true_eq] at ho
      obtain ⟨⟨⟨d1, d2⟩, p1⟩, p2⟩ := ho
      refine .inr ?_
      rw [O.hK]
      refine ⟨_, _, norm_dp S d1 rx, norm_dp S d2 ry, ?_, ?_, ?_⟩
      · unfold SeqAt.shaped
        rw [py_can d1, py_dep, decide_eq_true p1] <;> rfl
      · unfold SeqAt.shaped
        rw [py_can d2, py_dep, decide_eq_true p2] <;> rfl
      · rw [py_eqv _ _ d1 d2]
        exact q
  · exact h.elim
/-! ### unary -/
def dNeg (fa : DE) : DE := fun env st => (fa env st).bind fun x st => match x with
  | .int i => .ok (.int (-i)) st
  | _ => .bad
theorem pd_neg {a : Expr} {fa : DE} {pos : Pos} (ha : PD X g W a fa) : PD X g W (.UnaryOp .USub a pos) (dNeg fa) := PE.imp (pe_un un_neg ha) fun σ H Q ⟨μ, env, st, S, E, h⟩ => by
  refine bindE S E h fun μ1 H1 d st1 v L1 S1 E1 r1 h1 => ?_
  cases d with
  | int i => exact ⟨i, r1, h1.here S1 _ rfl⟩
  | _ => exact h1.elim
end
end G

namespace G
open PySem L2
/-! ### tests -/
section
variable {X : Cx} {g : GC} {W : WX} {k : Nat} {pos : Pos}
theorem pt_chain {a b c : Expr} {fa fb fc : DE} {op op' : CmpOp} {h h' : D → D → Store → R D} (ho : OpD X g W (compareOp op) h) (ho' : OpD X g W (compareOp op') h') (ha : PD X g W a fa) (hb : PD X g W b fb) (hc : PD X g W c fc)
    (hm : lastMarks [op, op'] [b, c] = false := by with_unfolding_all rfl) : PTD X g W (.Compare a [op, op'] [b, c] pos) (dB (dChain h h' fa fb fc)) := by
  obtain ⟨r, h1, h2⟩ := ho
  obtain ⟨r', h1', h2'⟩ := ho'
  exact PT.imp (L2.pt_chain h1 h1' ha hb hc hm) fun σ H Q q => dChain_ok h2 h2' (dB_ok q)
/-- an expression that gives True or False, as a test -/
theorem pt_b {e : Expr} {f : DE} (h : PD X g W e f) (he : ∀ whole, isTrue e X.env whole = (do let v ← whole; standAt e.pos; holding [v] (truthy v)) := by intro _; rfl) : PTD X g W e (dB f) :=
  PT.imp (pt_val h he) fun σ H Q q => dB_ok q
/-- the truth of a value -/
def truD (st : Store) : D → Option Bool
  | .non => some false
  | .bl b => some b
  | .int i => some (i != 0)
  | .str x => if x.length ≤ 16777216 then some ((x.length : Int) != 0) else none
  | .tup ds => some (!ds.isEmpty)
  | .lst ds => some (!ds.isEmpty)
  | .ref n => (lstAt st n).map fun ds => !ds.isEmpty
  | .scr ns => some (!ns.isEmpty)
  | _ => none
def dTru (f : DE) : DT := fun env st => (f env st).bind fun d st => match truD st d with
  | some b => .ok b st
  | none => .bad
theorem reps_emp {μ : Mp} {H : Hp} {ds : List D} {vs : List V} (r : Reps g μ H ds vs) : (!vs.isEmpty) = !ds.isEmpty := by
  cases ds with
  | nil => rw [show vs = [] from r] <;> rfl
  | cons d ds => obtain ⟨v, vr, e, _⟩ := r; rw [e] <;> rfl
theorem truD_ok {μ : Mp} {H : Hp} {st : Store} (S : RelS g μ H st) {d : D} {v : V} (r : Rep g μ H d v) {b : Bool} (h : truD st d = some b) : TruV g.K v H b := by
  cases d with
  | non => rw [show v = .non from r]; cases h; rfl
  | bl c => rw [show v = .bl c from r]; cases h; rfl
  | int i => rw [show v = .int i from r]; cases h; rfl
  | str x =>
    rw [show v = .str x from r]
    unfold truD at h
    by_cases hl : x.length ≤ 16777216
    · simp only [hl, if_true] at h
      cases h
      exact ⟨sizeLine_le hl, rfl⟩
    · simp only [hl, if_false] at h
      cases h
  | tup ds =>
    obtain ⟨a, vs, e, h1, r1⟩ := seqT_ok (ds := ds) r rfl
    cases h
    rw [e]
    exact .inr (.inl ⟨vs, h1, (reps_emp r1).symm⟩)
  | lst ds =>
    obtain ⟨a, vs, e, h1, r1⟩ := seqL_ok S (ds := ds) r rfl
    cases h
    rw [e]
    exact .inl ⟨vs, h1, (reps_emp r1).symm⟩
  | ref n =>
    cases q : lstAt st n with
    | none => simp only [truD, q] at h; cases h
    | some ds =>
      simp only [truD, q] at h
      cases h
      obtain ⟨a, vs, e, h1, r1⟩ := seqL_ok S (ds := ds) r q
      rw [e]
      exact .inl ⟨vs, h1, (reps_emp r1).symm⟩
  | scr ns =>
    obtain ⟨a, vs, e, h1, r1⟩ := seqL_ok S (ds := ns.map .int) r rfl
    cases h
    rw [e]
    refine .inl ⟨vs, h1, ?_⟩
    rw [reps_emp r1]
    cases ns <;> rfl
  | _ => cases h
theorem pt_tru {e : Expr} {f : DE} (O : Ok X g W k) (h : PD X g W e f) (he : ∀ whole, isTrue e X.env whole = (do let v ← whole; standAt e.pos; holding [v] (truthy v)) := by intro _; rfl) : PTD X g W e (dTru f) :=
  PT.imp (pt_truth h he) fun σ H Q ⟨μ, env, st, S, E, q⟩ => by
    refine bindE S E q fun μ1 H1 d st1 v L1 S1 E1 r1 h1 => ?_
    cases hb : truD st1 d with
    | none => rw [hb] at h1; exact h1.elim
    | some b =>
      rw [hb] at h1
      refine ⟨b, ?_, h1.here S1⟩
      rw [O.hK]
      exact truD_ok S1 r1 hb
def dNot (f : DT) : DT := fun env st => (f env st).bind fun b st => .ok (!b) st
theorem pt_not {a : Expr} {fa : DT} (ha : PTD X g W a fa) : PTD X g W (.UnaryOp .Not a pos) (dNot fa) := PT.imp (L2.pt_not ha) fun σ H Q ⟨μ, env, st, S, E, h⟩ => by
  exact bindT S E h fun μ1 H1 b st1 L1 S1 E1 h1 => h1.here S1
/-- a chain of and, or -/
def PWD (X : Cx) (g : GC) (W : WX) (e : Expr) (f : DT) : Prop := PW X e (tDT g W f)
def dAnd (fa fb : DT) : DT := fun env st => (fa env st).bind fun b st => if b = true then fb env st else .ok false st
def dOr (fa fb : DT) : DT := fun env st => (fa env st).bind fun b st => if b = true then .ok true st else fb env st
theorem pw_and1 {a : Expr} {fa : DT} (ha : PTD X g W a fa) : PWD X g W (.BoolOp .And [a] pos) fa := L2.pw_and1 ha
theorem pw_or1 {a : Expr} {fa : DT} (ha : PTD X g W a fa) : PWD X g W (.BoolOp .Or [a] pos) fa := L2.pw_or1 ha
theorem pw_and {a b : Expr} {rest : List Expr} {fa fb : DT} (ha : PTD X g W a fa) (hb : PWD X g W (.BoolOp .And (b :: rest) pos) fb) : PWD X g W (.BoolOp .And (a :: b :: rest) pos) (dAnd fa fb) :=
  PW.imp (L2.pw_and ha hb) fun σ H Q ⟨μ, env, st, S, E, h⟩ => by
    refine bindT S E h fun μ1 H1 b st1 L1 S1 E1 h1 => ?_
    cases b with
    | true => rw [if_pos rfl] at h1 ⊢; exact ⟨μ1, env, st1, S1, E1, h1⟩
    | false => rw [if_neg Bool.false_ne_true] at h1 ⊢; exact h1.here S1
theorem pw_or {a b : Expr} {rest : List Expr} {fa fb : DT} (ha : PTD X g W a fa) (hb : PWD X g W (.BoolOp .Or (b :: rest) pos) fb) : PWD X g W (.BoolOp .Or (a :: b :: rest) pos) (dOr fa fb) :=
  PW.imp (L2.pw_or ha hb) fun σ H Q ⟨μ, env, st, S, E, h⟩ => by
    refine bindT S E h fun μ1 H1 b st1 L1 S1 E1 h1 => ?_
    cases b with
    | true => rw [if_pos rfl] at h1 ⊢; exact h1.here S1
    | false => rw [if_neg Bool.false_ne_true] at h1 ⊢; exact ⟨μ1, env, st1, S1, E1, h1⟩
theorem pt_w {e : Expr} {f : DT} (h : PWD X g W e f) : PTD X g W e f := PW.pt h
/-- as values: True or False -/
def dAndV (fa fb : DE) : DE := fun env st => (fa env st).bind fun x st => match x with
  | .bl true => fb env st
  | .bl false => .ok (.bl false) st
  | _ => .bad
def dOrV (fa fb : DE) : DE := fun env st => (fa env st).bind fun x st => match x with
  | .bl true => .ok (.bl true) st
  | .bl false => fb env st
  | _ => .bad
def dNotV (fa : DE) : DE := fun env st => (fa env st).bind fun x st => match x with
  | .bl b => .ok (.bl (!b)) st
  | _ => .bad
theorem pd_one {op : BoolOp} {a : Expr} {fa : DE} (ha : PD X g W a fa) : PD X g W (.BoolOp op [a] pos) fa := pe_one ha
theorem pd_and {a b : Expr} {rest : List Expr} {fa fb : DE} (ha : PD X g W a fa) (hb : PD X g W (.BoolOp .And (b :: rest) pos) fb) : PD X g W (.BoolOp .And (a :: b :: rest) pos) (dAndV fa fb) :=
  PE.imp (pe_and ha hb) fun σ H Q ⟨μ, env, st, S, E, h⟩ => by
    refine bindE S E h fun μ1 H1 d st1 v L1 S1 E1 r1 h1 => ?_
    cases d with
    | bl c =>
      refine ⟨c, r1, ?_⟩
      cases c with
      | true => rw [if_pos rfl]; exact ⟨μ1, env, st1, S1, E1, h1⟩
      | false => rw [if_neg Bool.false_ne_true]; exact (show Post g W σ μ1 H1 (.ok (.bl false) st1) (VP g Q) from h1).here S1 _ rfl
    | _ => exact h1.elim
theorem pd_or {a b : Expr} {rest : List Expr} {fa fb : DE} (ha : PD X g W a fa) (hb : PD X g W (.BoolOp .Or (b :: rest) pos) fb) : PD X g W (.BoolOp .Or (a :: b :: rest) pos) (dOrV fa fb) :=
  PE.imp (pe_or ha hb) fun σ H Q ⟨μ, env, st, S, E, h⟩ => by
    refine bindE S E h fun μ1 H1 d st1 v L1 S1 E1 r1 h1 => ?_
    cases d with
    | bl c =>
      refine ⟨c, r1, ?_⟩
      cases c with
      | true => rw [if_pos rfl]; exact (show Post g W σ μ1 H1 (.ok (.bl true) st1) (VP g Q) from h1).here S1 _ rfl
      | false => rw [if_neg Bool.false_ne_true]; exact ⟨μ1, env, st1, S1, E1, h1⟩
    | _ => exact h1.elim
theorem pd_not {a : Expr} {fa : DE} (ha : PD X g W a fa) : PD X g W (.UnaryOp .Not a pos) (dNotV fa) := PE.imp (pe_not ha) fun σ H Q ⟨μ, env, st, S, E, h⟩ => by
  refine bindE S E h fun μ1 H1 d st1 v L1 S1 E1 r1 h1 => ?_
  cases d with
  | bl c => exact ⟨c, r1, h1.here S1 _ rfl⟩
  | _ => exact h1.elim
/-- a if t else b -/
def dIf (ft : DT) (fa fb : DE) : DE := fun env st => (ft env st).bind fun b st => if b = true then fa env st else fb env st
theorem pd_if {c a b : Expr} {ft : DT} {fa fb : DE} (hc : PTD X g W c ft) (ha : PD X g W a fa) (hb : PD X g W b fb) : PD X g W (.IfExp c a b pos) (dIf ft fa fb) := PE.imp (pe_ifExp hc ha hb) fun σ H Q ⟨μ, env, st, S, E, h⟩ => by
  refine bindT S E h fun μ1 H1 b st1 L1 S1 E1 h1 => ?_
  cases b with
  | true => rw [if_pos rfl] at h1 ⊢; exact ⟨μ1, env, st1, S1, E1, h1⟩
  | false => rw [if_neg Bool.false_ne_true] at h1 ⊢; exact ⟨μ1, env, st1, S1, E1, h1⟩

/-! ### arguments, displays -/
def dNil : DA := fun _ st => .ok [] st
def dCons (fa : DE) (fr : DA) : DA := fun env st => (fa env st).bind fun d st => (fr env st).bind fun ds st => .ok (d :: ds) st
theorem pa_nil : PAD X g W [] dNil := PA.imp L2.pa_nil fun σ H Q ⟨μ, env, st, S, E, h⟩ => h.here S _ rfl
theorem pa_cons {e : Expr} {es : List Expr} {fa : DE} {fr : DA} (ha : PD X g W e fa) (hr : PAD X g W es fr) (hs : starEach (e :: es) X.env = (false, eval e X.env) :: starEach es X.env := by rfl) : PAD X g W (e :: es) (dCons fa fr) :=
  PA.imp (L2.pa_cons ha hr hs) fun σ H Q ⟨μ, env, st, S, E, h⟩ => by
    refine bindE S E h fun μ1 H1 d st1 v L1 S1 E1 r1 h1 => ?_
    refine bindA S1 E1 h1 fun μ2 H2 ds st2 vs L2 S2 E2 r2 h2 => ?_
    exact h2.here S2 _ ⟨v, vs, rfl, r1.le L2, r2⟩
def dTup (fa : DA) : DE := fun env st => (fa env st).bind fun ds st => if ds.length ≤ 16777216 then .ok (.tup ds) st else .bad
def dLst (b : Bool) (fa : DA) : DE := fun env st => (fa env st).bind fun ds st => if ds.length ≤ 16777216 then mkL b ds st else .bad
theorem pd_tup {es : List Expr} {fa : DA} {x1} (ha : PAD X g W es fa) : PD X g W (.Tuple es x1 pos) (dTup fa) := PE.imp (pe_tup ha) fun σ H Q ⟨μ, env, st, S, E, h⟩ => by
  refine bindA S E h fun μ1 H1 ds st1 vs L1 S1 E1 r1 h1 => ?_
  split at h1
  · rename_i hl
    exact ⟨sizeLine_le (by rw [← r1.len]; exact hl), fun p hp => mkT_ok S1 r1 h1 hp⟩
  · exact h1.elim
theorem pd_lst (b : Bool) {es : List Expr} {fa : DA} (ha : PAD X g W es fa) : PD X g W (.List es pos) (dLst b fa) := PE.imp (pe_lst ha) fun σ H Q ⟨μ, env, st, S, E, h⟩ => by
  refine bindA S E h fun μ1 H1 ds st1 vs L1 S1 E1 r1 h1 => ?_
  split at h1
  · rename_i hl
    exact ⟨sizeLine_le (by rw [← r1.len]; exact hl), fun p hp => mkL_ok S1 r1 h1 hp⟩
  · exact h1.elim

/-! ### subscripts, slices -/
theorem at_ok {μ : Mp} {H : Hp} {ds : List D} {vs : List V} (r : Reps g μ H ds vs) {i : Int} {d : D} (h : atI ds i = some d) : ∃ v, atI vs i = some v ∧ Rep g μ H d v := by
  unfold atI at h ⊢
  rw [← r.len]
  cases e : ixN ds.length i with
  | none => rw [e] at h; cases h
  | some j =>
    rw [e] at h
    exact r.get h
def aIx : D → D → Store → R D
  | .str x, .int i, st => if x.length ≤ 16777216 then (match atI x.cps.toList i with
    | some c => .ok (.str ⟨#[c]⟩) st
    | none => .bad) else .bad
  | x, .int i, st => match seqA st x with
    | some ds => (match atI ds i with
      | some d => .ok d st
      | none => .bad)
    | none => .bad
  | _, _, _ => .bad
theorem pd_ix {a b : Expr} {fa fb : DE} (O : Ok X g W k) (ha : PD X g W a fa) (hb : PD X g W b fb) (hs : PlainIx b := by intro _ _; rfl) : PD X g W (.Subscript a b pos) (dBin aIx fa fb) := by
  refine PE.imp (pe_ix ix_seq ha hb hs) fun σ H Q q => dBin_tOp (fun σ μ H st x y v u Q S rx ry h => ?_) q
  unfold aIx at h
  split at h
  · rename_i x i
    split at h
    · rename_i hl
      split at h
      · rename_i c hc
        exact .inr (.inr ⟨x, i, c, rx, ry, sizeLine_le hl, hc, h.here S _ rfl⟩)
      · exact h.elim
    · exact h.elim
  · split at h
    · rename_i ds hq
      split at h
      · rename_i d hd
        obtain ⟨a, vs, e, h1, r1⟩ := seqA_ok S rx hq
        obtain ⟨w, h2, r2⟩ := at_ok r1 hd
        rw [O.hK]
        rcases h1 with h1 | h1
        · exact .inl ⟨a, vs, _, w, e, ry, h1, h2, h.here S _ r2⟩
        · exact .inr (.inl ⟨a, vs, _, w, e, ry, h1, h2, h.here S _ r2⟩)
      · exact h.elim
    · exact h.elim
  · exact h.elim
abbrev DO := Env → Store → R (Option Int)
def POD (X : Cx) (g : GC) (W : WX) (e : Option Expr) (f : DO) : Prop := PO X e (fun σ H Q => ∃ μ env st, RelS g μ H st ∧ RelE g μ H env σ ∧ Post g W σ μ H (f env st) (fun _ H' o _ => Q o H'))
theorem PO.imp {X : Cx} {e : Option Expr} {t t' : TO} (h : PO X e t) (hi : ∀ σ H Q, t' σ H Q → t σ H Q) : PO X e t' := ⟨fun pins s σ H Q I q => h.run pins s σ H Q I (hi _ _ _ q)⟩
def dNoP : DO := fun _ st => .ok none st
def dP (f : DE) : DO := fun env st => (f env st).bind fun d st => match d with
  | .int i => .ok (some i) st
  | _ => .bad
theorem po_none : POD X g W none dNoP := PO.imp L2.po_none fun σ H Q ⟨μ, env, st, S, E, h⟩ => h.here S
theorem po_some {e : Expr} {f : DE} (h : PD X g W e f) : POD X g W (some e) (dP f) := PO.imp (L2.po_some h) fun σ H Q ⟨μ, env, st, S, E, h⟩ => by
  refine bindE S E h fun μ1 H1 d st1 v L1 S1 E1 r1 h1 => ?_
  cases d with
  | int i => exact ⟨i, r1, h1.here S1⟩
  | _ => exact h1.elim
def cutD (xs : List D) (lo hi : Option Int) : List D := (xs.drop (HT.sIx xs.length 0 lo)).take (HT.sIx xs.length xs.length hi - HT.sIx xs.length 0 lo)
theorem cut_ok {μ : Mp} {H : Hp} {ds : List D} {vs : List V} (r : Reps g μ H ds vs) (lo hi : Option Int) : Reps g μ H (cutD ds lo hi) (cutV vs lo hi) := by
  unfold cutD cutV
  rw [← r.len]
  exact (r.drop _).take _
def aSl (b : Bool) : D → Option Int → Option Int → Store → R D
  | .str x, lo, hi, st => if x.length ≤ 16777216 then .ok (.str (cutS x lo hi)) st else .bad
  | .tup ds, lo, hi, st => .ok (.tup (cutD ds lo hi)) st
  | x, lo, hi, st => match seqL st x with
    | some ds => mkL b (cutD ds lo hi) st
    | none => .bad
theorem cut_all {xs : List D} {lo hi : Option Int} (h : HT.sIx xs.length 0 lo = 0 ∧ HT.sIx xs.length xs.length hi = xs.length) : cutD xs lo hi = xs := by
  unfold cutD
  rw [h.1, h.2, List.drop_zero]
  exact List.take_length
def dSl (b : Bool) (fa : DE) (fl fh : DO) : DE := fun env st => (fa env st).bind fun d st => (fl env st).bind fun l st => (fh env st).bind fun h st => aSl b d l h st
theorem bindO {β : Type} {σ : L2.St} {μ : Mp} {H : Hp} {env : Env} {st : Store} {P : Mp → Hp → β → Store → Prop} {f : DO} {q : Option Int → Store → R β} (S : RelS g μ H st) (E : RelE g μ H env σ) (h : Post g W σ μ H ((f env st).bind q) P) {Rest : Option Int → Hp → Prop}
    (hk : ∀ μ1 H1 d st1, Le μ H μ1 H1 → RelS g μ1 H1 st1 → RelE g μ1 H1 env σ → Post g W σ μ1 H1 (q d st1) P → Rest d H1) : ∃ μ env st, RelS g μ H st ∧ RelE g μ H env σ ∧ Post g W σ μ H (f env st) (fun _ H' o _ => Rest o H') := by
  refine ⟨μ, env, st, S, E, ?_⟩
  generalize f env st = r at h ⊢
  cases r with
  | ok d st1 => exact fun μ1 H1 L S1 => hk μ1 H1 d st1 L S1 (E.le L) (Post.le L h)
  | ex c st1 => exact h
  | bad => exact h
theorem pd_slice (b : Bool) {e : Expr} {lo hi : Option Expr} {p2 : Pos} {fa : DE} {fl fh : DO} (O : Ok X g W k) (ha : PD X g W e fa) (hl : POD X g W lo fl) (hh : POD X g W hi fh) : PD X g W (.Subscript e (.Slice lo hi none p2) pos) (dSl b fa fl fh) :=
  PE.imp (pe_slice ((sl_list.or sl_tupA).or sl_str) ha hl hh) fun σ H Q ⟨μ, env, st, S, E, h⟩ => by
    refine bindE S E h fun μ1 H1 d st1 v L1 S1 E1 r1 h1 => ?_
    refine bindO S1 E1 h1 fun μ2 H2 lo st2 L2 S2 E2 h2 => ?_
    refine bindO S2 E2 h2 fun μ3 H3 hi st3 L3 S3 E3 h3 => ?_
    have r3 := (r1.le L2).le L3
    unfold aSl at h3
    split at h3
    · rename_i x
      split at h3
      · rename_i hz
        exact .inr ⟨x, r3, sizeLine_le hz, h3.here S3 _ rfl⟩
      · exact h3.elim
    · rename_i ds
      obtain ⟨a, vs, e, q1, q2⟩ := seqT_ok r3 rfl
      refine .inl (.inr ?_)
      rw [O.hK]
      refine ⟨a, vs, e, q1, fun z => ?_, fun _ p hp => mkT_ok S3 (cut_ok q2 lo hi) h3 hp⟩
      rw [← q2.len] at z
      rw [cut_all z] at h3
      rw [← e]
      exact h3.here S3 _ r3
    · split at h3
      · rename_i ds hq
        obtain ⟨a, vs, e, q1, q2⟩ := seqL_ok S3 r3 hq
        refine .inl (.inl ?_)
        rw [O.hK]
        exact ⟨a, vs, e, q1, fun p hp => mkL_ok S3 (cut_ok q2 lo hi) h3 hp⟩
      · exact h3.elim

/-! ### calls of defs -/
/-- the promise of a def that computes f -/
def spD (g : GC) (n : Nat) (f : List D → Store → R D) : Sp := fun vs H Q E => vs.length = n ∧ ∃ μ st ds, RelS g μ H st ∧ Reps g μ H ds vs ∧ Post g (fun c d _ H => E c d H) [] μ H (f ds st) (VP g Q)
/-- the def x of n parameters computes f, at most k calls deep -/
def FnD (P : Program) (w : World) (mg : Str → Option Value) (base : Heap) (g : GC) (k : Nat) (x : Str) (n : Nat) (f : List D → Store → R D) : Prop :=
  ∃ (fa : Addr) (fd : FuncData) (ps : List Str), mg x = some (.ref fa) ∧ PySem.W.keepIn g.K (.ref fa) = true ∧ Binds g.K fd ps [] ∧ FnOk P w g.K mg base (L2.CX P w) k fa fd ps (spD g n f)
def dCall (f : List D → Store → R D) (fa : DA) : DE := fun env st => (fa env st).bind fun ds st => f ds st
theorem pd_call {x : Str} {p : Pos} {n j : Nat} {e : Expr} {es : List Expr} {f : List D → Store → R D} {fa : DA} (O : Ok X g W k) (F : FnD X.prog X.w X.mg X.base g j x n f) (hj : j ≤ k) (ha : PAD X g W (e :: es) fa) (hn : ∀ env st ds st', fa env st = .ok ds st' → ds.length = n) (hg : Gl X x := by rfl)
    (hdb : (x == ("__debug__" : Str)) = false := by decide) (he : starEach (e :: es) X.env = (false, eval e X.env) :: starEach es X.env := by rfl) (hpl : (backTo pos (starEach es X.env)).any (·.1) = false := by rfl) : PD X g W (.Call (.Name x p) (e :: es) [] pos) (dCall f fa) := by
  obtain ⟨fA, fd, ps, h1, h2, h3, h4⟩ := F
  rw [← O.hK] at h2 h3 h4
  refine PE.imp (pe_callS h4 (O.room.mono hj) hg h1 h2 h3 (fun σ => passAt O.tk σ) ha hdb he hpl) fun σ H Q ⟨μ, env, st, S, E, h⟩ => ?_
  have hn := hn env st
  refine ⟨μ, env, st, S, E, ?_⟩
  unfold dCall at h
  generalize fa env st = r at h hn ⊢
  cases r with
  | ok ds st1 => exact fun μ1 H1 L S1 vs rv => ⟨by rw [← rv.len]; exact hn ds st1 rfl, μ1, st1, ds, S1, rv, by
    have q := Post.le L h
    have q : Post g W σ μ1 H1 (f ds st1) (VP g Q) := q
    generalize f ds st1 = r at q ⊢
    cases r with
    | ok d st2 => exact q
    | ex c st2 => exact q
    | bad => exact q⟩
  | ex c st1 => exact h
  | bad => exact h
theorem len_nil_ {env : Env} {st st' : Store} {ds : List D} (h : dNil env st = .ok ds st') : ds.length = 0 := by cases h; rfl
theorem len_cons_ {fa : DE} {fr : DA} {n : Nat} (hr : ∀ env st ds st', fr env st = .ok ds st' → ds.length = n) : ∀ env st ds st', dCons fa fr env st = .ok ds st' → ds.length = n + 1 := fun env st ds st' h => by
  unfold dCons at h
  generalize fa env st = r at h
  cases r with
  | ok d st1 =>
    have h : (fr env st1).bind (fun ds st => R.ok (d :: ds) st) = .ok ds st' := h
    cases q : fr env st1 with
    | ok ds2 st2 =>
      rw [q] at h
      cases h
      rw [List.length_cons, hr _ _ _ _ q]
    | ex c st2 => rw [q] at h; cases h
    | bad => rw [q] at h; cases h
  | ex c st1 => cases h
  | bad => cases h
end
end G

namespace G
open PySem L2
/-! ### statements -/
inductive SR where
  | nx (env : Env) (st : Store) | rt (d : D) (st : Store) | bk (env : Env) (st : Store) | ct (env : Env) (st : Store) | ex (c : Str) (env : Env) (st : Store) | bad
abbrev DS := Env → Store → SR
def PostS (g : GC) (W : WX) (μ : Mp) (H : Hp) (r : SR) (Dn : Ends) : Prop := match r with
  | .nx env st => ∀ μ' H' σ', Le μ H μ' H' → RelS g μ' H' st → RelE g μ' H' env σ' → Dn.nx σ' H'
  | .rt d st => ∀ μ' H' v, Le μ H μ' H' → RelS g μ' H' st → Rep g μ' H' d v → Dn.rt v H'
  | .bk env st => ∀ μ' H' σ', Le μ H μ' H' → RelS g μ' H' st → RelE g μ' H' env σ' → Dn.bk σ' H'
  | .ct env st => ∀ μ' H' σ', Le μ H μ' H' → RelS g μ' H' st → RelE g μ' H' env σ' → Dn.ct σ' H'
  | .ex c env st => ∀ μ' H' σ', Le μ H μ' H' → RelS g μ' H' st → RelE g μ' H' env σ' → W (.ref (g.ga c)) none σ' H'
  | .bad => False
def tDS (g : GC) (W : WX) (f : DS) : TS := fun Dn σ H => ∃ μ env st, RelS g μ H st ∧ RelE g μ H env σ ∧ PostS g W μ H (f env st) Dn
def PSD (X : Cx) (g : GC) (W : WX) (s : Stmt) (f : DS) : Prop := PS X s (tDS g W f)
def PSsD (X : Cx) (g : GC) (W : WX) (s : List Stmt) (f : DS) : Prop := PSs X s (tDS g W f)
def R.s {α : Type} (r : R α) (env : Env) (k : α → Store → SR) : SR := match r with
  | .ok a st => k a st
  | .ex c st => .ex c env st
  | .bad => .bad
@[simp] theorem R.s_ok {α : Type} (a : α) (st : Store) (env : Env) (k : α → Store → SR) : (R.ok a st).s env k = k a st := rfl
@[simp] theorem R.s_ex {α : Type} (c : Str) (st : Store) (env : Env) (k : α → Store → SR) : (R.ex c st : R α).s env k = .ex c env st := rfl
@[simp] theorem R.s_bad {α : Type} (env : Env) (k : α → Store → SR) : (R.bad : R α).s env k = .bad := rfl
section
variable {g : GC} {W : WX} {μ μ1 : Mp} {H H1 : Hp} {r : SR} {Dn Dn' : Ends}
theorem PostS.le (L : Le μ H μ1 H1) (h : PostS g W μ H r Dn) : PostS g W μ1 H1 r Dn := by
  cases r with
  | nx env st => exact fun μ' H' σ' L' => h μ' H' σ' (L.trans L')
  | rt d st => exact fun μ' H' v L' => h μ' H' v (L.trans L')
  | bk env st => exact fun μ' H' σ' L' => h μ' H' σ' (L.trans L')
  | ct env st => exact fun μ' H' σ' L' => h μ' H' σ' (L.trans L')
  | ex c env st => exact fun μ' H' σ' L' => h μ' H' σ' (L.trans L')
  | bad => exact h
variable {σ : L2.St} {env : Env} {st : Store}
theorem sE {f : DE} {k : D → Store → SR} (S : RelS g μ H st) (E : RelE g μ H env σ) (h : PostS g W μ H ((f env st).s env k) Dn) {Rest : VK}
    (hk : ∀ μ1 H1 d st1 v, Le μ H μ1 H1 → RelS g μ1 H1 st1 → RelE g μ1 H1 env σ → Rep g μ1 H1 d v → PostS g W μ1 H1 (k d st1) Dn → Rest v H1) : tDE g W f σ H Rest := by
  refine ⟨μ, env, st, S, E, ?_⟩
  generalize f env st = r at h ⊢
  cases r with
  | ok d st1 => exact fun μ1 H1 L S1 v rv => hk μ1 H1 d st1 v L S1 (E.le L) rv (PostS.le L h)
  | ex c st1 => exact fun μ1 H1 L S1 => h μ1 H1 σ L S1 (E.le L)
  | bad => exact h
theorem sT {f : DT} {k : Bool → Store → SR} (S : RelS g μ H st) (E : RelE g μ H env σ) (h : PostS g W μ H ((f env st).s env k) Dn) {Rest : Bool → Hp → Prop}
    (hk : ∀ μ1 H1 b st1, Le μ H μ1 H1 → RelS g μ1 H1 st1 → RelE g μ1 H1 env σ → PostS g W μ1 H1 (k b st1) Dn → Rest b H1) : tDT g W f σ H Rest := by
  refine ⟨μ, env, st, S, E, ?_⟩
  generalize f env st = r at h ⊢
  cases r with
  | ok d st1 => exact fun μ1 H1 L S1 => hk μ1 H1 d st1 L S1 (E.le L) (PostS.le L h)
  | ex c st1 => exact fun μ1 H1 L S1 => h μ1 H1 σ L S1 (E.le L)
  | bad => exact h
theorem sA {f : DA} {k : List D → Store → SR} (S : RelS g μ H st) (E : RelE g μ H env σ) (h : PostS g W μ H ((f env st).s env k) Dn) {Rest : List V → Hp → Prop}
    (hk : ∀ μ1 H1 ds st1 vs, Le μ H μ1 H1 → RelS g μ1 H1 st1 → RelE g μ1 H1 env σ → Reps g μ1 H1 ds vs → PostS g W μ1 H1 (k ds st1) Dn → Rest vs H1) : tDA g W f σ H Rest := by
  refine ⟨μ, env, st, S, E, ?_⟩
  generalize f env st = r at h ⊢
  cases r with
  | ok d st1 => exact fun μ1 H1 L S1 vs rv => hk μ1 H1 d st1 vs L S1 (E.le L) rv (PostS.le L h)
  | ex c st1 => exact fun μ1 H1 L S1 => h μ1 H1 σ L S1 (E.le L)
  | bad => exact h
end
section
variable {X : Cx} {g : GC} {W : WX} {k : Nat} {pos : Pos}
def dNext : DS := fun env st => .nx env st
def dSeq (f h : DS) : DS := fun env st => match f env st with
  | .nx env st => h env st
  | r => r
theorem ss_nil : PSsD X g W [] dNext := PSs.imp pss_nil fun Dn σ H ⟨μ, env, st, S, E, h⟩ => h μ H σ Le.refl S E
theorem seq_ok {f h : DS} {Dn : Ends} {σ : L2.St} {H : Hp} (q : tDS g W (dSeq f h) Dn σ H) : tSeq (tDS g W f) (tDS g W h) Dn σ H := by
  obtain ⟨μ, env, st, S, E, q⟩ := q
  refine ⟨μ, env, st, S, E, ?_⟩
  unfold dSeq at q
  generalize f env st = r at q ⊢
  cases r with
  | nx env1 st1 => exact fun μ1 H1 σ1 L S1 E1 => ⟨μ1, env1, st1, S1, E1, PostS.le L q⟩
  | rt d st => exact q
  | bk env st => exact q
  | ct env st => exact q
  | ex c env st => exact q
  | bad => exact q
theorem ss_cons {st : Stmt} {rest : List Stmt} {f h : DS} (h1 : PSD X g W st f) (h2 : PSsD X g W rest h) : PSsD X g W (st :: rest) (dSeq f h) := PSs.imp (pss_cons h1 h2) fun Dn σ H q => seq_ok q
theorem ss_one {st : Stmt} {f : DS} (h1 : PSD X g W st f) : PSsD X g W [st] f := pss_one h1
def dBreak : DS := fun env st => .bk env st
def dCont : DS := fun env st => .ct env st
theorem s_pass : PSD X g W (.Pass pos) dNext := PS.imp ps_pass fun Dn σ H ⟨μ, env, st, S, E, h⟩ => h μ H σ Le.refl S E
theorem s_break : PSD X g W (.Break pos) dBreak := PS.imp ps_break fun Dn σ H ⟨μ, env, st, S, E, h⟩ => h μ H σ Le.refl S E
theorem s_cont : PSD X g W (.Continue pos) dCont := PS.imp ps_continue fun Dn σ H ⟨μ, env, st, S, E, h⟩ => h μ H σ Le.refl S E
def dDrop (f : DE) : DS := fun env st => (f env st).s env fun _ st => .nx env st
theorem s_expr {e : Expr} {f : DE} (h : PD X g W e f) (hs : swapsWith e none pos.line X.env = pure false := by rfl) : PSD X g W (.Expr e pos) (dDrop f) := PS.imp (ps_expr h hs) fun Dn σ H ⟨μ, env, st, S, E, q⟩ =>
  sE S E q fun μ1 H1 d st1 v L S1 E1 r1 h1 => h1 μ1 H1 σ Le.refl S1 E1
def dRet (f : DE) : DS := fun env st => (f env st).s env fun d st => .rt d st
theorem s_ret {e : Expr} {f : DE} (h : PD X g W e f) : PSD X g W (.Return (some e) pos) (dRet f) := PS.imp (ps_ret h) fun Dn σ H ⟨μ, env, st, S, E, q⟩ =>
  sE S E q fun μ1 H1 d st1 v L S1 E1 r1 h1 => h1 μ1 H1 v Le.refl S1 r1
def dRetN : DS := fun _ st => .rt .non st
theorem s_retN : PSD X g W (.Return none pos) dRetN := PS.imp ps_retN fun Dn σ H ⟨μ, env, st, S, E, q⟩ => q μ H .non Le.refl S rfl
def dIfS (c : DT) (f h : DS) : DS := fun env st => (c env st).s env fun b st => if b = true then f env st else h env st
theorem s_if {c : Expr} {a b : List Stmt} {fc : DT} {f h : DS} (hc : PTD X g W c fc) (ha : PSsD X g W a f) (hb : PSsD X g W b h) : PSD X g W (.If c a b pos) (dIfS fc f h) := PS.imp (ps_if hc ha hb) fun Dn σ H ⟨μ, env, st, S, E, q⟩ =>
  sT S E q fun μ1 H1 b st1 L S1 E1 h1 => by
    cases b with
    | true => rw [if_pos rfl] at h1 ⊢; exact ⟨μ1, env, st1, S1, E1, h1⟩
    | false => rw [if_neg Bool.false_ne_true] at h1 ⊢; exact ⟨μ1, env, st1, S1, E1, h1⟩

/-! ### targets -/
abbrev DG := D → Env → Option Env
abbrev DGs := List D → Env → Option Env
/-- the same but at these slots -/
def But (is : List Nat) (σ σ' : L2.St) : Prop := σ'.length = σ.length ∧ ∀ j, j ∉ is → σ'[j]? = σ[j]?
theorem But.refl {is : List Nat} {σ : L2.St} : But is σ σ := ⟨rfl, fun _ _ => rfl⟩
theorem But.app {is js : List Nat} {σ σ' σ'' : L2.St} (a : But is σ σ') (b : But js σ' σ'') : But (is ++ js) σ σ'' := ⟨b.1.trans a.1, fun j h => by
  simp only [List.mem_append, not_or] at h
  exact (b.2 j h.2).trans (a.2 j h.1)⟩
def tDG (g : GC) (is : List Nat) (f : DG) : TG := fun v σ H Q => ∃ μ env st d, RelS g μ H st ∧ RelE g μ H env σ ∧ Rep g μ H d v ∧ ∃ env', f d env = some env' ∧ ∀ σ', RelE g μ H env' σ' → But is σ σ' → Q σ' H
def tDGs (g : GC) (is : List Nat) (f : DGs) : TGs := fun vs σ H Q => ∃ μ env st ds, RelS g μ H st ∧ RelE g μ H env σ ∧ Reps g μ H ds vs ∧ ∃ env', f ds env = some env' ∧ ∀ σ', RelE g μ H env' σ' → But is σ σ' → Q σ' H
def PGD (X : Cx) (g : GC) (e : Expr) (is : List Nat) (f : DG) : Prop := PG X e (tDG g is f)
def PGsD (X : Cx) (g : GC) (es : List Expr) (is : List Nat) (f : DGs) : Prop := PGs X es (tDGs g is f)
theorem PG.imp {X : Cx} {e : Expr} {t t' : TG} (h : PG X e t) (hi : ∀ v σ H Q, t' v σ H Q → t v σ H Q) : PG X e t' := ⟨fun pins s σ H v u Q I r q => h.run pins s σ H v u Q I r (hi _ _ _ _ q)⟩
theorem PGs.imp {X : Cx} {e : List Expr} {t t' : TGs} (h : PGs X e t) (hi : ∀ v σ H Q, t' v σ H Q → t v σ H Q) : PGs X e t' := ⟨fun pins s σ H v u Q I r q => h.run pins s σ H v u Q I r (hi _ _ _ _ q)⟩
def dgName (i : Nat) : DG := fun d env => some (env.set i (some d))
theorem g_name (i : Nat) {x : Str} (O : Ok X g W k) (hi : X.N[i]? = some x := by rfl) (hx : Loc X.env.scope x := by first | exact .inl rfl | exact .inr rfl) (hf : X.fn x = true ∨ X.env.scope.names.lookup x = some .local := by first | exact .inl rfl | exact .inr rfl) : PGD X g (.Name x pos) [i] (dgName i) :=
  PG.imp (pg_name O.nd hi hx hf) fun v σ H Q ⟨μ, env, st, d, S, E, r, env', e, q⟩ => by
    cases e
    exact q _ (E.set i r) ⟨List.length_set, fun j h => List.getElem?_set_ne fun z => h (by simp [z])⟩
def dgNil : DGs := fun ds env => match ds with
  | [] => some env
  | _ => none
def dgCons (f : DG) (h : DGs) : DGs := fun ds env => match ds with
  | [] => none
  | d :: ds => (f d env).bind fun env => h ds env
theorem gs_nil : PGsD X g [] [] dgNil := PGs.imp pgs_nil fun vs σ H Q ⟨μ, env, st, ds, S, E, r, env', e, q⟩ => by
  cases ds with
  | nil => cases e; exact ⟨r, q σ E But.refl⟩
  | cons d ds => cases e
theorem gs_cons {e : Expr} {es : List Expr} {is js : List Nat} {f : DG} {h : DGs} (h1 : PGD X g e is f) (h2 : PGsD X g es js h) (hs : (assignEach (e :: es) X.env).map (·.2) = assign e X.env :: (assignEach es X.env).map (·.2) := by rfl) : PGsD X g (e :: es) (is ++ js) (dgCons f h) :=
  PGs.imp (pgs_cons h1 h2 hs) fun vs σ H Q ⟨μ, env, st, ds, S, E, r, env', e, q⟩ => by
    cases ds with
    | nil => cases e
    | cons d ds =>
      obtain ⟨v, vr, e1, r1, r2⟩ := r
      have e : (f d env).bind (fun env => h ds env) = some env' := e
      cases q1 : f d env with
      | none => rw [q1] at e; cases e
      | some env1 =>
        rw [q1] at e
        exact ⟨v, vr, e1, μ, env, st, d, S, E, r1, env1, q1, fun σ' E' b1 => ⟨μ, env1, st, ds, S, E', r2, env', e, fun σ2 E2 b2 => q σ2 E2 (b1.app b2)⟩⟩
def dgTup (n : Nat) (h : DGs) : DG := fun d env => match d with
  | .tup ds => if ds.length = n then h ds env else none
  | _ => none
theorem g_tup {es : List Expr} {kk n : Nat} {is : List Nat} {h : DGs} (O : Ok X g W k) (hh : PGsD X g es is h) (hn : (assignEach es X.env).length = n := by rfl) (hst : (assignEach es X.env).findIdx? (·.1) = none := by rfl) : PGD X g (.Tuple es kk pos) is (dgTup n h) :=
  PG.imp (pg_tup O.calm hh hn hst) fun v σ H Q ⟨μ, env, st, d, S, E, r, env', e, q⟩ => by
    unfold dgTup at e
    split at e
    · rename_i ds
      split at e
      · rename_i hl
        obtain ⟨a, vs, e1, h1, r1⟩ := seqT_ok r rfl
        rw [O.hK]
        exact ⟨a, vs, e1, h1, by rw [← r1.len]; exact hl, μ, env, st, ds, S, E, r1, env', e, q⟩
      · cases e
    · cases e
/-- .. of a list -/
def dgLst (n : Nat) (h : DGs) : DG := fun d env => match d with
  | .lst ds => if ds.length = n then h ds env else none
  | _ => none
theorem g_lst {es : List Expr} {kk n : Nat} {is : List Nat} {h : DGs} (O : Ok X g W k) (hh : PGsD X g es is h) (hn : (assignEach es X.env).length = n := by rfl) (hst : (assignEach es X.env).findIdx? (·.1) = none := by rfl) : PGD X g (.Tuple es kk pos) is (dgLst n h) :=
  PG.imp (pg_lst O.calm hh hn hst) fun v σ H Q ⟨μ, env, st, d, S, E, r, env', e, q⟩ => by
    unfold dgLst at e
    split at e
    · rename_i ds
      split at e
      · rename_i hl
        obtain ⟨a, vs, e1, h1, r1⟩ := seqL_ok S (ds := ds) r rfl
        rw [O.hK]
        exact ⟨a, vs, e1, h1, by rw [← r1.len]; exact hl, μ, env, st, ds, S, E, r1, env', e, q⟩
      · cases e
    · cases e

/-! ### stores -/
def dAsg (f : DE) (gt : DG) : DS := fun env st => (f env st).s env fun d st => match gt d env with
  | some env => .nx env st
  | none => .bad
theorem asg_ok {f : DE} {is : List Nat} {gt : DG} {Dn : Ends} {σ : L2.St} {H : Hp} (q : tDS g W (dAsg f gt) Dn σ H) : tAsg (tDE g W f) (tDG g is gt) Dn σ H := by
  obtain ⟨μ, env, st, S, E, q⟩ := q
  refine sE S E q fun μ1 H1 d st1 v L S1 E1 r1 h1 => ?_
  cases e : gt d env with
  | none => rw [e] at h1; exact h1.elim
  | some env1 =>
    rw [e] at h1
    exact ⟨μ1, env, st1, d, S1, E1, r1, env1, e, fun σ' E' _ => h1 μ1 H1 σ' Le.refl S1 E'⟩
theorem s_asg {tg e : Expr} {f : DE} {is : List Nat} {gt : DG} (he : PD X g W e f) (hg : PGD X g tg is gt) (hs : swapsWithSole [tg] e pos.line X.env = pure false := by rfl) (hw : swappedStores [tg] e X.env = pure none := by rfl)
    (h1 : (assignEach [tg] X.env).map (·.2) = [assign tg X.env] := by rfl) : PSD X g W (.Assign [tg] e pos) (dAsg f gt) := PS.imp (ps_asg he hg hs hw h1) fun Dn σ H q => asg_ok q
/-- a, b = e1, e2 with plain local names: no tuple is made -/
def dPar (is : List Nat) (fa : DA) : DS := fun env st => (fa env st).s env fun ds st => if ds.length = is.length then .nx ((is.zip ds).foldl (fun env p => env.set p.1 (some p.2)) env) st else .bad
theorem s_par {i j : Nat} {x y : Str} {a b : Expr} {fa : DA} {px py pt : Pos} {kt k2 pt2} (O : Ok X g W k) (ha : PAD X g W [a, b] fa) (hi : X.N[i]? = some x := by rfl) (hj : X.N[j]? = some y := by rfl) (hij : i ≠ j := by decide)
    (hx : X.env.scope.names.lookup x = some .local := by rfl) (hy : X.env.scope.names.lookup y = some .local := by rfl)
    (hw : swappedStores [.Tuple [.Name x px, .Name y py] kt pt] (.Tuple [a, b] k2 pt2) X.env = pure (some [x, y]) := by rfl)
    (hs : swapsWithSole [.Tuple [.Name x px, .Name y py] kt pt] (.Tuple [a, b] k2 pt2) pos.line X.env = pure false := by rfl) :
    PSD X g W (.Assign [.Tuple [.Name x px, .Name y py] kt pt] (.Tuple [a, b] k2 pt2) pos) (dPar [i, j] fa) := PS.imp (ps_par O.calm O.nd hi hj hij hx hy ha hw hs) fun Dn σ H ⟨μ, env, st, S, E, q⟩ => by
  refine sA S E q fun μ1 H1 ds st1 vs L S1 E1 r1 h1 => ?_
  match ds, vs, r1, h1 with
  | [d1, d2], vs, ⟨v1, _, e1, r1, v2, _, e2, r2, e3⟩, h1 =>
    subst e3 e2 e1
    exact ⟨v1, v2, rfl, h1 μ1 H1 _ Le.refl S1 ((E1.set i r1).set j r2)⟩
  | [], _, _, h1 => exact h1.elim
  | [_], _, _, h1 => exact h1.elim
  | _ :: _ :: _ :: _, _, _, h1 => simp at h1; exact h1.elim
theorem s_par3 {i j l : Nat} {x y z : Str} {a b c : Expr} {fa : DA} {px py pz pt : Pos} {kt k2 pt2} (O : Ok X g W k) (ha : PAD X g W [a, b, c] fa) (hi : X.N[i]? = some x := by rfl) (hj : X.N[j]? = some y := by rfl) (hl : X.N[l]? = some z := by rfl) (hij : i ≠ j := by decide) (hil : i ≠ l := by decide) (hjl : j ≠ l := by decide)
    (hx : X.env.scope.names.lookup x = some .local := by rfl) (hy : X.env.scope.names.lookup y = some .local := by rfl) (hz : X.env.scope.names.lookup z = some .local := by rfl)
    (hw : swappedStores [.Tuple [.Name x px, .Name y py, .Name z pz] kt pt] (.Tuple [a, b, c] k2 pt2) X.env = pure (some [x, y, z]) := by rfl)
    (hs : swapsWithSole [.Tuple [.Name x px, .Name y py, .Name z pz] kt pt] (.Tuple [a, b, c] k2 pt2) pos.line X.env = pure false := by rfl) :
    PSD X g W (.Assign [.Tuple [.Name x px, .Name y py, .Name z pz] kt pt] (.Tuple [a, b, c] k2 pt2) pos) (dPar [i, j, l] fa) := PS.imp (ps_par3 O.calm O.nd hi hj hl hij hil hjl hx hy hz ha hw hs) fun Dn σ H ⟨μ, env, st, S, E, q⟩ => by
  refine sA S E q fun μ1 H1 ds st1 vs L S1 E1 r1 h1 => ?_
  match ds, vs, r1, h1 with
  | [d1, d2, d3], vs, ⟨v1, _, e1, r1, v2, _, e2, r2, v3, _, e3, r3, e4⟩, h1 =>
    subst e4 e3 e2 e1
    exact ⟨v1, v2, v3, rfl, h1 μ1 H1 _ Le.refl S1 (((E1.set i r1).set j r2).set l r3)⟩
  | [], _, _, h1 => exact h1.elim
  | [_], _, _, h1 => exact h1.elim
  | [_, _], _, _, h1 => exact h1.elim
  | _ :: _ :: _ :: _ :: _, _, _, h1 => simp at h1; exact h1.elim
/-- name op= e, ints -/
def dAug (i : Nat) (h : D → D → Store → R D) (f : DE) : DS := fun env st => match env[i]? with
  | some (some x) => (f env st).s env fun y st => (h x y st).s env fun z st => .nx (env.set i (some z)) st
  | _ => .bad
theorem s_aug {i : Nat} {x : Str} {e : Expr} {f : DE} {op : Operator} {ti : TIp} {pos' : Pos} {h : D → D → Store → R D} (O : Ok X g W k) (he : PD X g W e f) (ho : PIp X op ti) (hr : RV g W ti h) (hi : X.N[i]? = some x := by rfl) (hx : Loc X.env.scope x := by first | exact .inl rfl | exact .inr rfl)
    (hf : X.fn x = true ∨ X.env.scope.names.lookup x = some .local := by first | exact .inl rfl | exact .inr rfl) : PSD X g W (.AugAssign (.Name x pos') op e pos) (dAug i h f) :=
  PS.imp (ps_aug O.nd hi hx he ho hf) fun Dn σ H ⟨μ, env, st, S, E, q⟩ => by
    unfold dAug at q
    split at q
    · rename_i d hd
      obtain ⟨v, h1, r1⟩ := E.at_ i d hd
      refine ⟨v, h1, sE S E q fun μ1 H1 d2 st1 v2 L1 S1 E1 r2 h2 => ?_⟩
      refine hr σ μ1 H1 st1 d d2 v v2 _ S1 (r1.le L1) r2 ?_
      generalize h d d2 st1 = rr at h2 ⊢
      cases rr with
      | ok z st2 => exact fun μ2 H2 L2 S2 w rw_ => (PostS.le L2 h2) μ2 H2 _ Le.refl S2 ((E1.le L2).set i rw_)
      | ex c st2 => exact fun μ2 H2 L2 S2 => h2 μ2 H2 σ L2 S2 (E1.le L2)
      | bad => exact h2
    · exact q.elim
def aAddI : D → D → Store → R D
  | .int i, .int j, st => .ok (.int (i + j)) st
  | _, _, _ => .bad
theorem rvAddI : RV g W (ipI fun i j => i + j) aAddI := fun σ μ H st x y v u Q S rx ry h => by
  unfold aAddI at h
  split at h
  · exact ⟨_, _, rx, ry, h.here S _ rfl⟩
  · exact h.elim
theorem rvSubI : RV g W (ipI fun i j => i - j) aSub := fun σ μ H st x y v u Q S rx ry h => by
  unfold aSub at h
  split at h
  · exact ⟨_, _, rx, ry, h.here S _ rfl⟩
  · exact h.elim
theorem s_addI {i : Nat} {x : Str} {e : Expr} {f : DE} {pos' : Pos} (O : Ok X g W k) (he : PD X g W e f) (hi : X.N[i]? = some x := by rfl) (hx : Loc X.env.scope x := by first | exact .inl rfl | exact .inr rfl)
    (hf : X.fn x = true ∨ X.env.scope.names.lookup x = some .local := by first | exact .inl rfl | exact .inr rfl) : PSD X g W (.AugAssign (.Name x pos') .Add e pos) (dAug i aAddI f) := s_aug O he ip_add rvAddI hi hx hf
theorem s_subI {i : Nat} {x : Str} {e : Expr} {f : DE} {pos' : Pos} (O : Ok X g W k) (he : PD X g W e f) (hi : X.N[i]? = some x := by rfl) (hx : Loc X.env.scope x := by first | exact .inl rfl | exact .inr rfl)
    (hf : X.fn x = true ∨ X.env.scope.names.lookup x = some .local := by first | exact .inl rfl | exact .inr rfl) : PSD X g W (.AugAssign (.Name x pos') .Sub e pos) (dAug i aSub f) := s_aug O he ip_sub rvSubI hi hx hf
/-- o[i] = e, o a list of the store -/
def setAt (st : Store) (o i d : D) : Option Store := match o, i with
  | .ref n, .int k => match lstAt st n with
    | some ds => (match ixN ds.length k with
      | some j => some (st.set n (.lst (ds.set j d)))
      | none => none)
    | none => none
  | _, _ => none
def dSetL (fe fo fi : DE) : DS := fun env st => (fe env st).s env fun d st => (fo env st).s env fun o st => (fi env st).s env fun i st => match setAt st o i d with
  | some st => .nx env st
  | none => .bad
theorem s_setL {o i e : Expr} {fe fo fi : DE} {pos' : Pos} (he : PD X g W e fe) (ho : PD X g W o fo) (hi : PD X g W i fi)
    (ha : ∀ v, assign (.Subscript o i pos') X.env v = (do
      let ov ← holding [v] (eval o X.env)
      let iv ← holding [v, ov] (eval i X.env)
      standAt pos'
      holding [v, ov, iv] (setItem ov iv v)
      release [v, ov, iv] []) := by intro _; rfl)
    (hs : swapsWithSole [.Subscript o i pos'] e pos.line X.env = pure false := by rfl) (hw : swappedStores [.Subscript o i pos'] e X.env = pure none := by rfl)
    (h1 : (assignEach [.Subscript o i pos'] X.env).map (·.2) = [assign (.Subscript o i pos') X.env] := by rfl) : PSD X g W (.Assign [.Subscript o i pos'] e pos) (dSetL fe fo fi) :=
  PS.imp (ps_asg he (pg_sub ho hi set_list ha) hs hw h1) fun Dn σ H ⟨μ, env, st, S, E, q⟩ => by
    refine sE S E q fun μ1 H1 d st1 v L1 S1 E1 r1 h1 => ?_
    refine sE S1 E1 h1 fun μ2 H2 od st2 ov L2 S2 E2 r2 h2 => ?_
    refine sE S2 E2 h2 fun μ3 H3 id_ st3 iv L3 S3 E3 r3 h3 => ?_
    cases e : setAt st3 od id_ d with
    | none => rw [e] at h3; exact h3.elim
    | some st4 =>
      rw [e] at h3
      unfold setAt at e
      split at e
      · rename_i n kk
        split at e
        · rename_i ds hds
          split at e
          · rename_i j hj
            cases e
            have r2 := r2.le L3
            have r1 := (r1.le L2).le L3
            obtain ⟨a, ea, ha⟩ := r2
            obtain ⟨vs, h4, h5⟩ := S3.at_ n a _ ha (lstAt_eq hds)
            refine ⟨a, vs, kk, j, ea, r3, h4, by rw [← h5.len]; exact hj, ?_⟩
            have hm := List.mem_of_getElem? ha
            have L5 := le_set (o := .lst (vs.set j v)) S3 hm
            exact h3 μ3 _ σ L5 (S3.set ha ⟨_, upd_same, (Reps.set r1 j h5).le L5⟩) (E3.le L5)
          · cases e
        · cases e
      · cases e
end

/-! ### loops -/
section
variable {X : Cx} {g : GC} {W : WX} {k : Nat} {pos : Pos}
/-- behind a turn: k is the rest of the loop -/
def loopK (k : Env → Store → SR) (r : SR) : SR := match r with
  | .nx env st => k env st
  | .ct env st => k env st
  | .bk env st => .nx env st
  | r => r
def whileD (ft : DT) (fb : DS) : Nat → Env → Store → SR
  | 0, _, _ => .bad
  | n + 1, env, st => (ft env st).s env fun b st => if b = true then loopK (whileD ft fb n) (fb env st) else .nx env st
def dWhile (ft : DT) (fb : DS) : DS := whileD ft fb 100000000
theorem s_while {c : Expr} {body : List Stmt} {ft : DT} {fb : DS} (O : Ok X g W k) (hc : PTD X g W c ft) (hb : PSsD X g W body fb) : PSD X g W (.While c body [] pos) (dWhile ft fb) :=
  PS.imp (ps_while O.hp hc hb) fun Dn σ H ⟨μ, env, st, S, E, q⟩ => by
    refine ⟨fun m σ H => ∃ μ env st, RelS g μ H st ∧ RelE g μ H env σ ∧ PostS g W μ H (whileD ft fb m env st) Dn, ⟨100000000, μ, env, st, S, E, q⟩, ?_⟩
    rintro m σ H ⟨μ, env, st, S, E, q⟩
    cases m with
    | zero => exact q.elim
    | succ m =>
      have q : PostS g W μ H ((ft env st).s env fun b st => if b = true then loopK (whileD ft fb m) (fb env st) else .nx env st) Dn := q
      refine sT S E q fun μ1 H1 b st1 L S1 E1 h1 => ?_
      cases b with
      | false =>
        rw [if_neg Bool.false_ne_true] at h1 ⊢
        exact h1 μ1 H1 σ Le.refl S1 E1
      | true =>
        rw [if_pos rfl] at h1 ⊢
        refine ⟨fun σ' H' => ∃ μ env st, RelS g μ H' st ∧ RelE g μ H' env σ' ∧ PostS g W μ H' (whileD ft fb m env st) Dn, fun σ' H' n => ⟨m, Nat.lt_succ_self m, n⟩, μ1, env, st1, S1, E1, ?_⟩
        generalize fb env st1 = r at h1 ⊢
        cases r with
        | nx env2 st2 => exact fun μ2 H2 σ2 L2 S2 E2 => ⟨μ2, env2, st2, S2, E2, PostS.le L2 h1⟩
        | ct env2 st2 => exact fun μ2 H2 σ2 L2 S2 E2 => ⟨μ2, env2, st2, S2, E2, PostS.le L2 h1⟩
        | bk env2 st2 => exact h1
        | rt d st2 => exact h1
        | ex c env2 st2 => exact h1
        | bad => exact h1
end
end G

namespace G
open PySem L2
/-! ### the very same data -/
mutual
def D.same : D → D → Bool
  | .non, .non => true
  | .bl a, .bl b => a == b
  | .int i, .int j => i == j
  | .str x, .str y => x == y
  | .lst xs, .lst ys => D.sames xs ys
  | .tup xs, .tup ys => D.sames xs ys
  | .dic ks xs, .dic ls ys => decide (ks = ls) && D.sames xs ys
  | .ref n, .ref m => n == m
  | .fn x, .fn y => x == y
  | .lam n, .lam m => n == m
  | .scr x, .scr y => x == y
  | _, _ => false
def D.sames : List D → List D → Bool
  | [], [] => true
  | x :: xs, y :: ys => D.same x y && D.sames xs ys
  | _, _ => false
end
mutual
theorem same_eq : ∀ (d e : D), D.same d e = true → d = e
  | .non, e, h => by cases e <;> first | rfl | cases h
  | .bl a, e, h => by cases e <;> first | (rename_i b; have h : (a == b) = true := h; rw [beq_iff_eq.mp h]) | cases h
  | .int a, e, h => by cases e <;> first | (rename_i b; have h : (a == b) = true := h; rw [beq_iff_eq.mp h]) | cases h
  | .str a, e, h => by cases e <;> first | (rename_i b; have h : (a == b) = true := h; rw [beq_iff_eq.mp h]) | cases h
  | .ref a, e, h => by cases e <;> first | (rename_i b; have h : (a == b) = true := h; rw [beq_iff_eq.mp h]) | cases h
  | .fn a, e, h => by cases e <;> first | (rename_i b; have h : (a == b) = true := h; rw [beq_iff_eq.mp h]) | cases h
  | .lam a, e, h => by cases e <;> first | (rename_i b; have h : (a == b) = true := h; rw [beq_iff_eq.mp h]) | cases h
  | .scr a, e, h => by cases e <;> first | (rename_i b; have h : (a == b) = true := h; rw [beq_iff_eq.mp h]) | cases h
  | .lst xs, e, h => by cases e <;> first | (rename_i ys; rw [sames_eq xs ys h]) | cases h
  | .tup xs, e, h => by cases e <;> first | (rename_i ys; rw [sames_eq xs ys h]) | cases h
  | .dic ks xs, e, h => by
    cases e <;> first
      | (rename_i ls ys
         have h : (decide (ks = ls) && D.sames xs ys) = true := h
         rw [Bool.and_eq_true, decide_eq_true_eq] at h
         rw [h.1, sames_eq xs ys h.2])
      | cases h
theorem sames_eq : ∀ (ds es : List D), D.sames ds es = true → ds = es
  | [], [], _ => rfl
  | [], _ :: _, h => nomatch h
  | _ :: _, [], h => nomatch h
  | d :: ds, e :: es, h => by
    have h : (D.same d e && D.sames ds es) = true := h
    rw [Bool.and_eq_true] at h
    rw [same_eq d e h.1, sames_eq ds es h.2]
end
mutual
theorem same_refl : ∀ (d : D), D.same d d = true
  | .non => rfl
  | .bl a => beq_self_eq_true a
  | .int a => beq_self_eq_true a
  | .str a => beq_self_eq_true a
  | .ref a => beq_self_eq_true a
  | .fn a => beq_self_eq_true a
  | .lam a => beq_self_eq_true a
  | .scr a => beq_self_eq_true a
  | .lst xs => sames_refl xs
  | .tup xs => sames_refl xs
  | .dic ks xs => by
    show (decide (ks = ks) && D.sames xs xs) = true
    rw [sames_refl xs, decide_eq_true rfl] <;> rfl
theorem sames_refl : ∀ (ds : List D), D.sames ds ds = true
  | [] => rfl
  | d :: ds => by
    show (D.same d d && D.sames ds ds) = true
    rw [same_refl d, sames_refl ds] <;> rfl
end

/-! ### what is walked -/
/-- a list of the store is walked: it may not change meanwhile -/
abbrev Gd := Option (Nat × List D)
def gdOk (gd : Gd) (st : Store) : Bool := match gd with
  | none => true
  | some (n, ds) => match lstAt st n with
    | some es => D.sames es ds
    | none => false
def ItOk (g : GC) (J : It) (ds : List D) (gd : Gd) (μ : Mp) (H : Hp) : Prop :=
  ∀ μ' H' st', Lw μ H μ' H' → RelS g μ' H' st' → gdOk gd st' = true →
    (∀ (i : Nat) d, ds[i]? = some d → J.go i H' ∧ ∀ x H'', J.yld i H' x H'' → Le μ' H' μ' H'' ∧ RelS g μ' H'' st' ∧ Rep g μ' H'' d x) ∧ J.stop ds.length H'
abbrev DI := Env → Store → R (List D × Gd)
def tDI (g : GC) (W : WX) (f : DI) : TI := fun σ H R => ∃ μ env st, RelS g μ H st ∧ RelE g μ H env σ ∧ Post g W σ μ H (f env st) (fun μ' H' p _ => ∀ J, ItOk g J p.1 p.2 μ' H' → R J H')
def PID (X : Cx) (g : GC) (W : WX) (tg iter : Expr) (f : DI) : Prop := PI X tg iter (tDI g W f)
theorem PI.imp {X : Cx} {tg e : Expr} {t t' : TI} (h : PI X tg e t) (hi : ∀ σ H Q, t' σ H Q → t σ H Q) : PI X tg e t' := ⟨fun pins s σ H Q I q => h.run pins s σ H Q I (hi _ _ _ q)⟩
section
variable {X : Cx} {g : GC} {W : WX} {k : Nat} {pos : Pos} {tg : Expr}
/-- a list or a tuple -/
def iSeq (K : PySem.W.Frag) (tl : TE) : TI := fun σ H R => tl σ H fun x H1 => ∃ a, x = .ref a ∧ (((∃ xs, SqL K H1 a xs) ∧ R (Itl K a) H1) ∨ ((∃ xs, SqT K H1 a xs) ∧ R (Itt K a) H1))
theorem fresh_fp {pins : List (Addr × Obj)} {σ : L2.St} {H : Hp} {s : Shared} (I : Inv X pins σ H s) : ∀ b ∈ [s.heap.objs.size], FpOk X pins H b := fun b hb => by
  rw [List.mem_singleton.mp hb]
  exact I.fpOk (Nat.le_refl _) (I.hok.fresh (Nat.le_refl _))
theorem pi_seq {l : Expr} {tl : TE} (hl : PE X l tl) : PI X tg l (iSeq X.K tl) := by
  constructor
  intro pins s₀ σ H R I h
  refine thn (hl.run pins s₀ σ H _ I h) fun v s₂ hv => ?_
  obtain ⟨x, H2, I2, rx, a, ea, h2⟩ := hv
  subst ea
  obtain rfl : v = Value.ref a := rx
  have kp : ∀ o₂ : Obj, Inv X pins σ H2 { s₂ with heap := s₂.heap.push o₂ } := fun o₂ => I2.kept (t' := s₂.toks) fun c u e => Heap.get?_push_of_some _ e
  rcases h2 with ⟨⟨xs, hx⟩, hR⟩ | ⟨⟨xs, hx⟩, hR⟩
  · obtain ⟨vs, _, pl, _⟩ := I2.list hx
    exact wpAny_pyIter_list pl.isList ⟨_, [s₂.heap.objs.size], _, _, H2, rfl, kp _, turn_list a _, ⟨_, Heap.get?_push_size _ rfl, rfl, rfl⟩, fresh_fp I2, hR⟩
  · obtain ⟨vs, _, pt, _⟩ := I2.tuple hx
    exact wpAny_pyIter_tuple (t := a) (items := vs.toArray) pt ⟨_, [s₂.heap.objs.size], _, _, H2, rfl, kp _, turn_tuple a _, ⟨_, Heap.get?_push_size _ rfl, rfl, rfl⟩, fresh_fp I2, hR⟩
def gdOf (st : Store) : D → Option (List D × Gd)
  | .tup ds => some (ds, none)
  | .lst ds => some (ds, none)
  | .scr ns => some (ns.map .int, none)
  | .ref n => (lstAt st n).map fun ds => (ds, some (n, ds))
  | _ => none
def dIt (f : DE) : DI := fun env st => (f env st).bind fun d st => match gdOf st d with
  | some p => .ok p st
  | none => .bad
theorem sql_inj {K : PySem.W.Frag} {H : Hp} {a : Addr} {xs ys : List V} (h : H a = some (.lst xs)) (h' : Rd H a (.lst ys)) : xs = ys := by
  rcases h' with h' | ⟨o, h'⟩
  · rw [h] at h'; cases h'; rfl
  · rw [h] at h'; cases h'
/-- a list that may be told by the written part too: the list that it is -/
theorem itl_ok {J : It} {K : PySem.W.Frag} {a : Addr} (e : J = Itl K a) {ds : List D} {gd : Gd} {μ : Mp} {H : Hp} (hK : g.K = K)
    (h : ∀ μ' H' st', Lw μ H μ' H' → RelS g μ' H' st' → gdOk gd st' = true → ∃ vs, SqL K H' a vs ∧ Reps g μ' H' ds vs) : ItOk g J ds gd μ H := by
  subst e
  intro μ' H' st' L S hg
  obtain ⟨vs, h1, h2⟩ := h μ' H' st' L S hg
  refine ⟨fun i d hd => ?_, ⟨vs, h1, by rw [h2.len]; exact Nat.le_refl _⟩⟩
  obtain ⟨v, h3, h4⟩ := h2.get hd
  refine ⟨⟨vs, v, h1, h3⟩, fun x H'' y => ?_⟩
  obtain ⟨e, y⟩ := y
  subst e
  have := y vs h1
  rw [h3] at this
  cases this
  exact ⟨Le.refl, S, h4⟩
theorem itt_ok {J : It} {K : PySem.W.Frag} {a : Addr} (e : J = Itt K a) {ds : List D} {gd : Gd} {μ : Mp} {H : Hp}
    (h : ∀ μ' H' st', Lw μ H μ' H' → RelS g μ' H' st' → gdOk gd st' = true → ∃ vs, SqT K H' a vs ∧ Reps g μ' H' ds vs) : ItOk g J ds gd μ H := by
  subst e
  intro μ' H' st' L S hg
  obtain ⟨vs, h1, h2⟩ := h μ' H' st' L S hg
  refine ⟨fun i d hd => ?_, ⟨vs, h1, by rw [h2.len]; exact Nat.le_refl _⟩⟩
  obtain ⟨v, h3, h4⟩ := h2.get hd
  refine ⟨⟨vs, v, h1, h3⟩, fun x H'' y => ?_⟩
  obtain ⟨e, y⟩ := y
  subst e
  have := y vs h1
  rw [h3] at this
  cases this
  exact ⟨Le.refl, S, h4⟩
theorem i_seq {l : Expr} {f : DE} (O : Ok X g W k) (h : PD X g W l f) : PID X g W tg l (dIt f) := PI.imp (pi_seq h) fun σ H R ⟨μ, env, st, S, E, q⟩ => by
  refine bindE S E q fun μ1 H1 d st1 v L1 S1 E1 r1 h1 => ?_
  rw [O.hK]
  cases d with
  | tup ds =>
    obtain ⟨a, vs, e, h2, r2⟩ := seqT_ok (ds := ds) r1 rfl
    refine ⟨a, e, .inr ⟨⟨vs, h2⟩, h1.here S1 _ (itt_ok rfl fun μ' H' st' L S _ => ?_)⟩⟩
    obtain ⟨a', vs', e', h3, r3⟩ := seqT_ok (ds := ds) (r1.lw L) rfl
    rw [e] at e'
    cases e'
    exact ⟨vs', h3, r3⟩
  | lst ds =>
    obtain ⟨a, vs, e, h2, r2⟩ := seqL_ok S1 (ds := ds) r1 rfl
    refine ⟨a, e, .inl ⟨⟨vs, h2⟩, h1.here S1 _ (itl_ok rfl rfl fun μ' H' st' L S _ => ?_)⟩⟩
    obtain ⟨a', vs', e', h3, r3⟩ := seqL_ok S (ds := ds) (r1.lw L) rfl
    rw [e] at e'
    cases e'
    exact ⟨vs', h3, r3⟩
  | scr ns =>
    obtain ⟨a, vs, e, h2, r2⟩ := seqL_ok S1 (ds := ns.map .int) r1 rfl
    refine ⟨a, e, .inl ⟨⟨vs, h2⟩, h1.here S1 _ (itl_ok rfl rfl fun μ' H' st' L S _ => ?_)⟩⟩
    obtain ⟨a', vs', e', h3, r3⟩ := seqL_ok S (ds := ns.map .int) (r1.lw L) rfl
    rw [e] at e'
    cases e'
    exact ⟨vs', h3, r3⟩
  | ref n =>
    cases hn : lstAt st1 n with
    | none => simp only [gdOf, hn] at h1; exact h1.elim
    | some ds =>
      simp only [gdOf, hn] at h1
      obtain ⟨a, vs, e, h2, r2⟩ := seqL_ok S1 (ds := ds) r1 hn
      refine ⟨a, e, .inl ⟨⟨vs, h2⟩, h1.here S1 _ (itl_ok rfl rfl fun μ' H' st' L S hg => ?_)⟩⟩
      have hs : lstAt st' n = some ds := by
        have hg : (match lstAt st' n with
          | some es => D.sames es ds
          | none => false) = true := hg
        cases q : lstAt st' n with
        | none => rw [q] at hg; cases hg
        | some es => rw [q] at hg; rw [sames_eq _ _ hg]
      obtain ⟨a', vs', e', h3, r3⟩ := seqL_ok S (ds := ds) (r1.lw L) hs
      rw [e] at e'
      cases e'
      exact ⟨vs', h3, r3⟩
  | _ => exact h1.elim
/-- range -/
def rangeD (lo hi : Int) : List D := (List.range (hi - lo).toNat).map fun i => .int (lo + (i : Nat))
def bnd (i : Int) : Bool := decide (-4611686018427387904 ≤ i) && decide (i < 4611686018427387904)
theorem bnd_ok {i : Int} (h : bnd i = true) : -(2 ^ 62) ≤ i ∧ i < 2 ^ 62 := by
  unfold bnd at h
  rw [Bool.and_eq_true, decide_eq_true_eq, decide_eq_true_eq] at h
  exact h
def dRng1 (f : DE) : DI := fun env st => (f env st).bind fun d st => match d with
  | .int j => if bnd j = true then .ok (rangeD 0 j, none) st else .bad
  | _ => .bad
def dRng2 (f h : DE) : DI := fun env st => (f env st).bind fun d st => (h env st).bind fun e st => match d, e with
  | .int i, .int j => if bnd i = true ∧ bnd j = true then .ok (rangeD i j, none) st else .bad
  | _, _ => .bad
theorem itr_ok {lo hi : Int} {μ : Mp} {H : Hp} : ItOk g (Itr lo (hi - lo).toNat) (rangeD lo hi) none μ H := by
  intro μ' H' st' L S _
  refine ⟨fun i d hd => ?_, by show (hi - lo).toNat ≤ (rangeD lo hi).length; unfold rangeD; simp⟩
  unfold rangeD at hd
  rw [List.getElem?_map] at hd
  by_cases hi' : i < (hi - lo).toNat
  · rw [List.getElem?_range hi'] at hd
    cases hd
    refine ⟨hi', fun x H'' y => ?_⟩
    obtain ⟨e, y⟩ := y
    subst e y
    exact ⟨Le.refl, S, rfl⟩
  · rw [List.getElem?_eq_none (by simpa using hi')] at hd
    cases hd
theorem i_range1 {a : Expr} {f : DE} {p : Pos} (hm : X.mg "range" = none) (ha : PD X g W a f) (hg : Gl X "range" := by rfl) (hs : starEach [a] X.env = [(false, eval a X.env)] := by rfl) : PID X g W tg (.Call (.Name "range" p) [a] [] pos) (dRng1 f) :=
  PI.imp (pi_range1 hg hm (L2.pa_cons ha L2.pa_nil hs) hs) fun σ H R₀ ⟨μ, env, st, S, E, q⟩ => by
    refine bindE S E q fun μ1 H1 d st1 v L1 S1 E1 r1 h1 => ?_
    cases d with
    | int j =>
      have h1 : Post g W σ μ1 H1 (if bnd j = true then .ok (rangeD 0 j, none) st1 else .bad) _ := h1
      split at h1
      · rename_i hj
        refine ⟨j, by rw [show v = V.int j from r1], (bnd_ok hj).1, (bnd_ok hj).2, h1.here S1 _ ?_⟩
        have := itr_ok (g := g) (lo := 0) (hi := j) (μ := μ1) (H := H1)
        rw [Int.sub_zero] at this
        exact this
      · exact h1.elim
    | _ => exact h1.elim
theorem i_range2 {a b : Expr} {f h : DE} {p : Pos} (hm : X.mg "range" = none) (ha : PD X g W a f) (hb : PD X g W b h) (hg : Gl X "range" := by rfl) (hs : starEach [a, b] X.env = [(false, eval a X.env), (false, eval b X.env)] := by rfl) (hs2 : starEach [b] X.env = [(false, eval b X.env)] := by rfl) :
    PID X g W tg (.Call (.Name "range" p) [a, b] [] pos) (dRng2 f h) :=
  PI.imp (pi_range2 hg hm (L2.pa_cons ha (L2.pa_cons hb L2.pa_nil hs2) (by rw [hs, hs2])) hs hs2) fun σ H R₀ ⟨μ, env, st, S, E, q⟩ => by
    refine bindE S E q fun μ1 H1 d st1 v L1 S1 E1 r1 h1 => ?_
    refine bindE S1 E1 h1 fun μ2 H2 d2 st2 v2 L2 S2 E2 r2 h2 => ?_
    have r1 := r1.le L2
    cases d with
    | int i =>
      cases d2 with
      | int j =>
        have h2 : Post g W σ μ2 H2 (if bnd i = true ∧ bnd j = true then .ok (rangeD i j, none) st2 else .bad) _ := h2
        split at h2
        · rename_i hj
          exact ⟨i, j, by rw [show v = V.int i from r1, show v2 = V.int j from r2], ⟨(bnd_ok hj.1).1, (bnd_ok hj.1).2, (bnd_ok hj.2).1, (bnd_ok hj.2).2⟩, h2.here S2 _ itr_ok⟩
        · exact h2.elim
      | _ => exact h2.elim
    | _ => exact h2.elim
/-! ### for -/
def forD (gt : DG) (fb : DS) (gd : Gd) : List D → Env → Store → SR
  | [], env, st => if gdOk gd st = true then .nx env st else .bad
  | d :: ds, env, st => if gdOk gd st = true then (match gt d env with
    | none => .bad
    | some env => loopK (forD gt fb gd ds) (fb env st)) else .bad
def dFor (fi : DI) (gt : DG) (fb : DS) : DS := fun env st => (fi env st).s env fun p st => forD gt fb p.2 p.1 env st
theorem sI {f : DI} {q : List D × Gd → Store → SR} {μ : Mp} {H : Hp} {env : Env} {σ : L2.St} {st : Store} {Dn : Ends} (S : RelS g μ H st) (E : RelE g μ H env σ) (h : PostS g W μ H ((f env st).s env q) Dn) {Rest : It → Hp → Prop}
    (hk : ∀ μ1 H1 p st1 J, Le μ H μ1 H1 → RelS g μ1 H1 st1 → RelE g μ1 H1 env σ → ItOk g J p.1 p.2 μ1 H1 → PostS g W μ1 H1 (q p st1) Dn → Rest J H1) : tDI g W f σ H Rest := by
  refine ⟨μ, env, st, S, E, ?_⟩
  generalize f env st = r at h ⊢
  cases r with
  | ok d st1 => exact fun μ1 H1 L S1 J hJ => hk μ1 H1 d st1 J L S1 (E.le L) hJ (PostS.le L h)
  | ex c st1 => exact fun μ1 H1 L S1 => h μ1 H1 σ L S1 (E.le L)
  | bad => exact h
theorem ItOk.le {J : It} {ds : List D} {gd : Gd} {μ μ' : Mp} {H H' : Hp} (L : Lw μ H μ' H') (h : ItOk g J ds gd μ H) : ItOk g J ds gd μ' H' := fun μ2 H2 st2 L2 => h μ2 H2 st2 (L.trans L2)
theorem s_for {iter : Expr} {body : List Stmt} {fi : DI} {is : List Nat} {gt : DG} {fb : DS} (O : Ok X g W k) (hi : PID X g W tg iter fi) (hg : PGD X g tg is gt) (hb : PSsD X g W body fb) (hs : ∀ x, foldedSetIterable iter X.env x = pure x := by intro _; rfl) : PSD X g W (.For tg iter body [] pos) (dFor fi gt fb) :=
  PS.imp (ps_for O.hp O.calm hi hg hb hs) fun Dn σ H ⟨μ, env, st, S, E, q⟩ => by
    refine sI S E q fun μ1 H1 p st1 J L1 S1 E1 hJ h1 => ?_
    obtain ⟨ds, gd⟩ := p
    refine ⟨fun i m σ H => m = ds.length - i ∧ i ≤ ds.length ∧ ∃ μ env st, RelS g μ H st ∧ RelE g μ H env σ ∧ ItOk g J ds gd μ H ∧ PostS g W μ H (forD gt fb gd (ds.drop i) env st) Dn,
      ⟨ds.length, by simp, Nat.zero_le _, μ1, env, st1, S1, E1, hJ, h1⟩, ?_⟩
    rintro i m σ H ⟨rfl, hi, μ, env, st, S, E, hJ, q⟩
    by_cases hlt : i < ds.length
    · rw [List.drop_eq_getElem_cons hlt] at q
      have q : PostS g W μ H (if gdOk gd st = true then (match gt ds[i] env with
        | none => .bad
        | some env => loopK (forD gt fb gd (ds.drop (i + 1))) (fb env st)) else .bad) Dn := q
      split at q
      · rename_i hgd
        obtain ⟨hgo, hy⟩ := (hJ μ H st Lw.refl S hgd).1 i ds[i] (List.getElem?_eq_getElem hlt)
        refine .inr ⟨hgo, fun σ' H' => ds.length - (i + 1) = ds.length - (i + 1) ∧ i + 1 ≤ ds.length ∧ ∃ μ env st, RelS g μ H' st ∧ RelE g μ H' env σ' ∧ ItOk g J ds gd μ H' ∧ PostS g W μ H' (forD gt fb gd (ds.drop (i + 1)) env st) Dn, fun σ' H' w => ⟨ds.length - (i + 1), by omega, w⟩, fun x H' y => ?_⟩
        obtain ⟨L2, S2, r2⟩ := hy x H' y
        cases e : gt ds[i] env with
        | none => rw [e] at q; exact q.elim
        | some env2 =>
          rw [e] at q
          refine ⟨μ, env, st, ds[i], S2, E.le L2, r2, env2, e, fun σ2 E2 _ => ⟨μ, env2, st, S2, E2, ?_⟩⟩
          have q : PostS g W μ H' (loopK (forD gt fb gd (ds.drop (i + 1))) (fb env2 st)) Dn := PostS.le L2 q
          generalize fb env2 st = r at q ⊢
          cases r with
          | nx env3 st3 => exact fun μ3 H3 σ3 L3 S3 E3 => ⟨rfl, hlt, μ3, env3, st3, S3, E3, hJ.le (L2.trans L3).toLw, PostS.le L3 q⟩
          | ct env3 st3 => exact fun μ3 H3 σ3 L3 S3 E3 => ⟨rfl, hlt, μ3, env3, st3, S3, E3, hJ.le (L2.trans L3).toLw, PostS.le L3 q⟩
          | bk env3 st3 => exact q
          | rt d st3 => exact q
          | ex c env3 st3 => exact q
          | bad => exact q
      · exact q.elim
    · have hi2 : i = ds.length := by omega
      subst hi2
      rw [List.drop_length] at q
      have q : PostS g W μ H (if gdOk gd st = true then .nx env st else .bad) Dn := q
      split at q
      · rename_i hgd
        exact .inl ⟨(hJ μ H st Lw.refl S hgd).2, q μ H σ Le.refl S E⟩
      · exact q.elim

/-! ### comprehensions -/
def wipeE (env : Env) : List Nat → Env
  | [] => env
  | v :: vs => (wipeE env vs).set v none
theorem RelE.wipe {μ : Mp} {H : Hp} {env : Env} {σ : L2.St} (E : RelE g μ H env σ) : ∀ vs, RelE g μ H (wipeE env vs) (L2.wipe σ vs)
  | [] => E
  | v :: vs => by
    have ih := E.wipe vs
    refine ⟨by show ((wipeE env vs).set v none).length = ((L2.wipe σ vs).set v none).length; rw [List.length_set, List.length_set, ih.len], fun i d h => ?_⟩
    have h : ((wipeE env vs).set v none)[i]? = some (some d) := h
    show ∃ w, ((L2.wipe σ vs).set v none)[i]? = some (some w) ∧ _
    by_cases hv : v = i
    · subst hv
      by_cases hl : v < (wipeE env vs).length
      · rw [List.getElem?_set_self hl] at h; cases h
      · rw [List.getElem?_eq_none (by simpa using hl)] at h; cases h
    · rw [List.getElem?_set_ne hv] at h
      obtain ⟨w, h1, h2⟩ := ih.at_ i d h
      exact ⟨w, by rw [List.getElem?_set_ne hv]; exact h1, h2⟩
end
end G

namespace G
open PySem L2
/-! ### a list that is being made -/
def Mp.hide (μ : Mp) (D : Addr) : Mp := ⟨μ.m, D :: μ.h⟩
section
variable {g : GC} {μ : Mp} {m : List Addr} {h : List Addr} {H H' : Hp} {st : Store} {p : Addr} {o : HO}
/-- it is new -/
theorem lw_hide (S : RelS g μ H st) (hp : H p = none) : Lw μ H (μ.hide p) (upd H p o) := ⟨fun _ _ q => q, fun a u n r t => ⟨⟨n.1, fun z => by
  rcases List.mem_cons.mp z with z | z
  · obtain ⟨x, e⟩ := Rd.some r
    rw [z, hp] at e; cases e
  · exact n.2 z⟩, Rd.upd_ne r fun z => by
  obtain ⟨x, e⟩ := Rd.some r
  rw [z, hp] at e; cases e⟩, fun a vs _ q => by rw [L2.upd_ne (ne_of_none q hp)]; exact q⟩
theorem RelS.hideV (u : HidV) (S : RelS g μ H st) (hp : H p = none) : RelS g (μ.hide p) (upd H p u.ho) st := ⟨S.len, S.nd, fun a ha => by
  rcases List.mem_cons.mp ha with z | z
  · rw [z]
    exact ⟨S.fresh hp, u, upd_same⟩
  · exact S.hid_new hp a z, fun n a so h1 h2 => by
  have r := S.at_ n a so h1 h2
  obtain ⟨u, e, _⟩ := r.there
  exact r.move (lw_hide S hp) ((ext_new hp a u e).trans e.symm), S.tabs.ext (ext_new hp)⟩
theorem RelS.hide {xs : List V} (S : RelS g μ H st) (hp : H p = none) : RelS g (μ.hide p) (upd H p (.lst xs)) st := S.hideV (.l xs) hp
/-- it is known from now on -/
theorem lw_show : Lw (μ.hide p) H μ H := ⟨fun _ _ q => q, fun a u n r _ => ⟨⟨n.1, fun z => n.2 (List.mem_cons_of_mem _ z)⟩, r⟩, fun _ _ _ q => q⟩
theorem RelS.show (S : RelS g (μ.hide p) H st) : RelS g μ H st := ⟨S.len, S.nd, fun a ha => S.hid a (List.mem_cons_of_mem _ ha), fun n a so h1 h2 => (S.at_ n a so h1 h2).move lw_show rfl, S.tabs⟩
/-- it grows -/
theorem le_grow (S : RelS g (μ.hide p) H st) : Lw (μ.hide p) H (μ.hide p) (upd H p o) := ⟨fun _ _ q => q, fun a u n r _ => ⟨n, Rd.upd_ne r fun z => n.2 (by rw [z]; exact List.mem_cons_self)⟩, fun a vs n q => by
  rw [L2.upd_ne fun z => n.2 (by rw [z]; exact List.mem_cons_self)]
  exact q⟩
theorem RelS.growV (u w : HidV) (S : RelS g (μ.hide p) H st) (hp : H p = some u.ho) : RelS g (μ.hide p) (upd H p w.ho) st := ⟨S.len, S.nd, fun a ha => by
  obtain ⟨n, u, e⟩ := S.hid a ha
  by_cases z : a = p
  · rw [z] at n ⊢
    exact ⟨n, w, upd_same⟩
  · exact ⟨n, u, (L2.upd_ne z).trans e⟩, fun n a so h1 h2 => (S.at_ n a so h1 h2).move (le_grow S) (L2.upd_ne fun z => (S.hid p List.mem_cons_self).1 (by rw [← z]; exact List.mem_of_getElem? h1)), fun q hq => by
  obtain ⟨ps, h1, h2, h3⟩ := S.tabs q hq
  refine ⟨ps, (L2.upd_ne fun z => by rw [z, hp] at h1; cases u <;> cases h1).trans h1, h2, fun pos cv hc => ?_⟩
  obtain ⟨c, e1, e2⟩ := h3 pos cv hc
  exact ⟨c, e1, (L2.upd_ne fun z => by rw [z, hp] at e2; cases u <;> cases e2).trans e2⟩⟩
theorem RelS.grow {xs ys : List V} (S : RelS g (μ.hide p) H st) (hp : H p = some (.lst xs)) : RelS g (μ.hide p) (upd H p (.lst ys)) st := S.growV (.l xs) (.l ys) hp
/-- from the start on: all but p -/
theorem le_over {μ0 : Mp} {H0 : Hp} (hh : h = μ0.h) (n0 : H0 p = none) {m' : List Addr} (L : Le μ0 H0 ⟨m, h⟩ H) (L' : Lw ⟨m, p :: h⟩ H ⟨m', p :: h⟩ H') (hk : ∀ a ∈ h, H' a = H a) : Le μ0 H0 ⟨m', h⟩ H' := by
  have np : ∀ a u, Rd H0 a u → a ≠ p := fun a u r z => by
    obtain ⟨x, e⟩ := Rd.some r
    rw [z, n0] at e; cases e
  refine ⟨⟨fun n a q => L'.pre n a (L.pre n a q), fun a u n r t => ?_, fun a vs n q => ?_⟩, hh, fun a ha => (hk a (by rw [hh]; exact ha)).trans (L.hk a ha)⟩
  · obtain ⟨h1, h2⟩ := L.keep a u n r t
    obtain ⟨h3, h4⟩ := L'.keep a u ⟨h1.1, fun z => (List.mem_cons.mp z).elim (np a u r) h1.2⟩ h2 t
    exact ⟨⟨h3.1, fun z => h3.2 (List.mem_cons_of_mem _ z)⟩, h4⟩
  · obtain ⟨h1, _⟩ := L.keep a _ n (.inl q) (by intro _ z; cases z)
    exact L'.keepL a vs ⟨h1.1, fun z => (List.mem_cons.mp z).elim (np a _ (.inl q)) h1.2⟩ (L.keepL a vs n q)
end

section
variable {g : GC} {m h : List Addr} {H : Hp} {st : Store} {D : Addr} {acc : List G.D} {vacc : List V}
/-- it comes into the store -/
theorem lw_adopt : Lw ⟨m, D :: h⟩ H ⟨m ++ [D], h⟩ H := by
  refine ⟨fun n a q => ?_, fun a u n r _ => ⟨⟨fun z => ?_, fun z => n.2 (List.mem_cons_of_mem _ z)⟩, r⟩, fun _ _ _ q => q⟩
  · show (m ++ [D])[n]? = some a
    rw [List.getElem?_append_left (List.getElem?_eq_some_iff.mp q).1]
    exact q
  · rcases List.mem_append.mp z with z | z
    · exact n.1 z
    · exact n.2 (by rw [List.mem_singleton.mp z]; exact List.mem_cons_self)
theorem RelS.adopt (S : RelS g ⟨m, D :: h⟩ H st) (hD : H D = some (.lst vacc)) (r : Reps g ⟨m, D :: h⟩ H acc vacc) (n : D ∉ h) : RelS g ⟨m ++ [D], h⟩ H (st ++ [.lst acc]) := by
  have nm : D ∉ m := (S.hid D List.mem_cons_self).1
  refine ⟨by simp [S.len], ?_, fun a ha => ?_, fun i a so h1 h2 => ?_, S.tabs⟩
  · show (m ++ [D]).Nodup
    rw [List.nodup_append]
    exact ⟨S.nd, by simp, fun x hx y hy z => nm (by rw [List.mem_singleton.mp hy] at z; rw [← z]; exact hx)⟩
  · obtain ⟨n1, u, e⟩ := S.hid a (List.mem_cons_of_mem _ ha)
    refine ⟨fun z => ?_, u, e⟩
    rcases List.mem_append.mp z with z | z
    · exact n1 z
    · exact n (by rw [← List.mem_singleton.mp z]; exact ha)
  · have h1 : (m ++ [D])[i]? = some a := h1
    have sl : m.length = st.length := S.len
    by_cases hi : i < m.length
    · rw [List.getElem?_append_left hi] at h1
      rw [List.getElem?_append_left (by rw [← sl]; exact hi)] at h2
      exact (S.at_ i a so h1 h2).move lw_adopt rfl
    · have hi2 : i = m.length := by
        have := (List.getElem?_eq_some_iff.mp h1).1
        simp at this
        omega
      subst hi2
      simp at h1
      rw [sl] at h2
      simp at h2
      subst h1 h2
      exact ⟨vacc, hD, r.lw lw_adopt⟩
theorem le_adopt {μ0 : Mp} {H0 : Hp} (n0 : H0 D = none) (L : Le μ0 H0 ⟨m, h⟩ H) : Le μ0 H0 ⟨m ++ [D], h⟩ H := by
  refine ⟨⟨fun n a q => ?_, fun a u n r t => ?_, L.keepL⟩, L.hh, L.hk⟩
  · have := L.pre n a q
    show (m ++ [D])[n]? = some a
    rw [List.getElem?_append_left (List.getElem?_eq_some_iff.mp this).1]
    exact this
  · obtain ⟨h1, h2⟩ := L.keep a u n r t
    refine ⟨⟨fun z => ?_, h1.2⟩, h2⟩
    rcases List.mem_append.mp z with z | z
    · exact h1.1 z
    · obtain ⟨x, e⟩ := Rd.some r
      rw [List.mem_singleton.mp z, n0] at e
      cases e
end
/-! ### comprehensions -/
def R.b {α β : Type} (r : R α) (k : α → Store → R β) : R β := match r with
  | .ok a st => k a st
  | _ => .bad
@[simp] theorem R.b_ok {α β : Type} (a : α) (st : Store) (k : α → Store → R β) : (R.ok a st).b k = k a st := rfl
theorem R.b_b {α β γ : Type} (r : R α) (k : α → Store → R β) (k' : β → Store → R γ) : (r.b k).b k' = r.b fun a st => (k a st).b k' := by
  cases r <;> rfl
abbrev W0 : WX := fun _ _ _ _ => False
/-- the items that a comprehension makes -/
def lcD (gt : DG) (ft : DT) (fe : DE) (gd : Gd) : List D → Env → Store → R (List D)
  | [], _, st => if gdOk gd st = true then .ok [] st else .bad
  | d :: ds, env, st => if gdOk gd st = true then (match gt d env with
    | none => .bad
    | some env1 => (ft env1 st).b fun b st => if b = true then (fe env1 st).b fun x st => (lcD gt ft fe gd ds env st).b fun xs st => .ok (x :: xs) st else lcD gt ft fe gd ds env st) else .bad
def dLc (b : Bool) (fi : DI) (gt : DG) (ft : DT) (fe : DE) (vs : List Nat) : DE := fun env st => (fi env st).bind fun p st => if p.1.length ≤ 16777216 then (lcD gt ft fe p.2 p.1 (wipeE env vs) st).b fun xs st => mkL b xs st else .bad
def PTsD (X : Cx) (g : GC) (W : WX) (es : List Expr) (f : DT) : Prop := PTs X es (tDT g W f)
theorem PTs.imp {X : Cx} {e : List Expr} {t t' : TT} (h : PTs X e t) (hi : ∀ σ H Q, t' σ H Q → t σ H Q) : PTs X e t' := ⟨fun pins s σ H Q I q => h.run pins s σ H Q I (hi _ _ _ q)⟩
def dYes : DT := fun _ st => .ok true st
section
variable {X : Cx} {g : GC} {W : WX} {k : Nat} {pos : Pos}
theorem ts_nil : PTsD X g W [] dYes := PTs.imp pts_nil fun σ H Q ⟨μ, env, st, S, E, h⟩ => h.here S
theorem ts_one {c : Expr} {f : DT} (h : PTD X g W c f) : PTsD X g W [c] f := pts_one h
theorem Ok.blk (O : Ok X g W k) (s : Shared) (H : Hp) (scope : Scope) (ce : PySem.Env) (fp : List Addr) : Ok (X.blk s H scope ce fp) g W0 k := ⟨O.hK, takes0, PassesOwn.never, O.calm, O.nd, O.room⟩
theorem But.wipe {is vs : List Nat} {σ σ' : L2.St} (h : But is (L2.wipe σ vs) σ') (hs : ∀ i ∈ is, i ∈ vs) : L2.wipe σ' vs = L2.wipe σ vs := by
  apply List.ext_getElem?
  intro j
  by_cases hj : j ∈ vs
  · have at_ : ∀ (ρ : L2.St) (ws : List Nat), j ∈ ws → (L2.wipe ρ ws)[j]? = if j < ρ.length then some none else none := fun ρ ws => by
      induction ws with
      | nil => intro z; cases z
      | cons w ws ih =>
        intro z
        show ((L2.wipe ρ ws).set w none)[j]? = _
        by_cases e : w = j
        · subst e
          by_cases hl : w < ρ.length
          · rw [if_pos hl, List.getElem?_set_self (by rw [L2.wipe_length]; exact hl)]
          · rw [if_neg hl, List.getElem?_eq_none (by rw [List.length_set, L2.wipe_length]; omega)]
        · rw [List.getElem?_set_ne e]
          exact ih ((List.mem_cons.mp z).resolve_left fun q => e q.symm)
    rw [at_ _ _ hj, at_ _ _ hj, h.1, L2.wipe_length]
  · rw [L2.wipe_out hj, L2.wipe_out hj]
    have := h.2 j fun z => hj (hs j z)
    rw [this, L2.wipe_out hj]
theorem bindI {β : Type} {f : DI} {q : List D × Gd → Store → R β} {μ : Mp} {H : Hp} {env : Env} {σ : L2.St} {st : Store} {P : Mp → Hp → β → Store → Prop} (S : RelS g μ H st) (E : RelE g μ H env σ) (h : Post g W σ μ H ((f env st).bind q) P) {Rest : It → Hp → Prop}
    (hk : ∀ μ1 H1 p st1 J, Le μ H μ1 H1 → RelS g μ1 H1 st1 → RelE g μ1 H1 env σ → ItOk g J p.1 p.2 μ1 H1 → Post g W σ μ1 H1 (q p st1) P → Rest J H1) : tDI g W f σ H Rest := by
  refine ⟨μ, env, st, S, E, ?_⟩
  generalize f env st = r at h ⊢
  cases r with
  | ok d st1 => exact fun μ1 H1 L S1 J hJ => hk μ1 H1 d st1 J L S1 (E.le L) hJ (Post.le L h)
  | ex c st1 => exact fun μ1 H1 L S1 => h μ1 H1 L S1
  | bad => exact h
/-- the reading of a comprehension -/
theorem lc_ok {b : Bool} {is vs : List Nat} {gt : DG} {ft : DT} {fe : DE} {σ : L2.St} {Q : VK} {μ1 : Mp} {H1 : Hp} {env : Env} {ds : List D} {gd : Gd} {st1 : Store} {J : It} (S1 : RelS g μ1 H1 st1) (E1 : RelE g μ1 H1 env σ) (hJ : ItOk g J ds gd μ1 H1) (hv : ∀ i ∈ is, i ∈ vs) (hl : ds.length ≤ 16777216)
    (h1 : Post g W σ μ1 H1 ((lcD gt ft fe gd ds (wipeE env vs) st1).b fun xs st => mkL b xs st) (VP g Q)) (D₀ : Addr) (hD : H1 D₀ = none) :
    ∃ Wv : Nat → Nat → Hp → Prop, (∃ m, Wv 0 m (upd H1 D₀ (.lst []))) ∧ ∀ i m H, Wv i m H →
      (J.stop i H ∧ Q (.ref D₀) H) ∨ (J.go i H ∧ ∃ Nx : Hp → Prop, (∀ H', Nx H' → ∃ m', m' < m ∧ Wv (i + 1) m' H') ∧ ∀ x H', J.yld i H x H' → tDG g is gt x (L2.wipe σ vs) H' fun σ2 H2 => L2.wipe σ2 vs = L2.wipe σ vs ∧ tDT g W0 ft σ2 H2 fun b H3 =>
        if b = true then tDE g W0 fe σ2 H3 fun y H4 => ∃ acc, H4 D₀ = some (.lst acc) ∧ acc.length < sizeLine ∧ Nx (upd H4 D₀ (.lst (acc ++ [y]))) else Nx H3) := by
  have nD : ∀ a ∈ μ1.h, a ≠ D₀ := fun a ha => S1.hne hD ha
  have nD' : D₀ ∉ μ1.h := fun z => nD _ z rfl
  obtain ⟨m1, h1'⟩ := μ1
  refine ⟨fun i m H => m = ds.length - i ∧ i ≤ ds.length ∧ ∃ (μm : List Addr) (st : Store) (acc : List D) (vacc : List V), Le ⟨m1, h1'⟩ H1 ⟨μm, h1'⟩ H ∧ RelS g ⟨μm, D₀ :: h1'⟩ H st ∧ RelE g ⟨μm, D₀ :: h1'⟩ H env σ ∧ ItOk g J ds gd ⟨μm, D₀ :: h1'⟩ H ∧ H D₀ = some (.lst vacc) ∧ Reps g ⟨μm, D₀ :: h1'⟩ H acc vacc ∧ acc.length ≤ i ∧
      Post g W σ ⟨m1, h1'⟩ H1 ((lcD gt ft fe gd (ds.drop i) (wipeE env vs) st).b fun xs st => mkL b (acc ++ xs) st) (VP g Q),
    ⟨ds.length, by simp, Nat.zero_le _, m1, st1, [], [], le_new S1 hD, S1.hide hD, E1.lw (lw_hide S1 hD), hJ.le (lw_hide S1 hD), upd_same, rfl, Nat.zero_le _, h1⟩, ?_⟩
  rintro i m H ⟨rfl, hi, μm, st, acc, vacc, L, S, E, hJ, hH, ra, hal, q⟩
  by_cases hlt : i < ds.length
  · rw [List.drop_eq_getElem_cons hlt] at q
    have q : Post g W σ ⟨m1, h1'⟩ H1 ((if gdOk gd st = true then (match gt ds[i] (wipeE env vs) with
      | none => R.bad
      | some env1 => (ft env1 st).b fun b st => if b = true then (fe env1 st).b fun x st => (lcD gt ft fe gd (ds.drop (i + 1)) (wipeE env vs) st).b fun xs st => .ok (x :: xs) st else lcD gt ft fe gd (ds.drop (i + 1)) (wipeE env vs) st) else R.bad).b fun xs st => mkL b (acc ++ xs) st) (VP g Q) := q
    split at q
    · rename_i hgd
      obtain ⟨hgo, hy⟩ := (hJ ⟨μm, D₀ :: h1'⟩ H st Lw.refl S hgd).1 i ds[i] (List.getElem?_eq_getElem hlt)
      refine .inr ⟨hgo, fun H' => ds.length - (i + 1) = ds.length - (i + 1) ∧ i + 1 ≤ ds.length ∧ ∃ (μm : List Addr) (st : Store) (acc : List D) (vacc : List V), Le ⟨m1, h1'⟩ H1 ⟨μm, h1'⟩ H' ∧ RelS g ⟨μm, D₀ :: h1'⟩ H' st ∧ RelE g ⟨μm, D₀ :: h1'⟩ H' env σ ∧ ItOk g J ds gd ⟨μm, D₀ :: h1'⟩ H' ∧ H' D₀ = some (.lst vacc) ∧ Reps g ⟨μm, D₀ :: h1'⟩ H' acc vacc ∧ acc.length ≤ i + 1 ∧
        Post g W σ ⟨m1, h1'⟩ H1 ((lcD gt ft fe gd (ds.drop (i + 1)) (wipeE env vs) st).b fun xs st => mkL b (acc ++ xs) st) (VP g Q), fun H' w => ⟨ds.length - (i + 1), by omega, w⟩, fun x H' y => ?_⟩
      obtain ⟨Lb, S2, r2⟩ := hy x H' y
      cases e : gt ds[i] (wipeE env vs) with
      | none => rw [e] at q; exact q.elim
      | some env2 =>
        rw [e] at q
        refine ⟨⟨μm, D₀ :: h1'⟩, wipeE env vs, st, ds[i], S2, (E.le Lb).wipe vs, r2, env2, e, fun σ2 E2 bt => ⟨bt.wipe hv, ⟨μm, D₀ :: h1'⟩, env2, st, S2, E2, ?_⟩⟩
        have q : Post g W σ ⟨m1, h1'⟩ H1 (((ft env2 st).b fun b st => if b = true then (fe env2 st).b fun x st => (lcD gt ft fe gd (ds.drop (i + 1)) (wipeE env vs) st).b fun xs st => .ok (x :: xs) st else lcD gt ft fe gd (ds.drop (i + 1)) (wipeE env vs) st).b fun xs st => mkL b (acc ++ xs) st) (VP g Q) := q
        generalize ft env2 st = rt at q ⊢
        cases rt with
        | ex c st3 => exact q.elim
        | bad => exact q.elim
        | ok bb st3 =>
          intro μ3 H3 L3 S3
          obtain ⟨m3, h3⟩ := μ3
          obtain rfl : h3 = D₀ :: h1' := L3.hh
          have L23 := Lb.trans L3
          cases bb with
          | false =>
            rw [if_neg Bool.false_ne_true]
            exact ⟨rfl, hlt, m3, st3, acc, vacc, le_over rfl hD L L23.toLw (fun a ha => L23.hk a (List.mem_cons_of_mem _ ha)), S3, E.le L23, hJ.le L23.toLw, (L23.hk D₀ List.mem_cons_self).trans hH, ra.le L23, by omega, q⟩
          | true =>
            rw [if_pos rfl]
            refine ⟨⟨m3, D₀ :: h1'⟩, env2, st3, S3, E2.le L3, ?_⟩
            have q : Post g W σ ⟨m1, h1'⟩ H1 (((fe env2 st3).b fun x st => (lcD gt ft fe gd (ds.drop (i + 1)) (wipeE env vs) st).b fun xs st => .ok (x :: xs) st).b fun xs st => mkL b (acc ++ xs) st) (VP g Q) := q
            generalize fe env2 st3 = re at q ⊢
            cases re with
            | ex c st4 => exact q.elim
            | bad => exact q.elim
            | ok y st4 =>
              intro μ4 H4 L4 S4 v rv
              obtain ⟨m4, h4⟩ := μ4
              obtain rfl : h4 = D₀ :: h1' := L4.hh
              have L24 := L23.trans L4
              have h4D : H4 D₀ = some (.lst vacc) := (L24.hk D₀ List.mem_cons_self).trans hH
              have gr := le_grow (μ := ⟨m4, h1'⟩) (p := D₀) (o := .lst (vacc ++ [v])) S4
              have L25 := L24.toLw.trans gr
              have q : Post g W σ ⟨m1, h1'⟩ H1 (((lcD gt ft fe gd (ds.drop (i + 1)) (wipeE env vs) st4).b fun xs st => .ok (y :: xs) st).b fun xs st => mkL b (acc ++ xs) st) (VP g Q) := q
              rw [R.b_b] at q
              refine ⟨vacc, h4D, ?_, rfl, hlt, m4, st4, acc ++ [y], vacc ++ [v], le_over rfl hD L L25 (fun a ha => (L2.upd_ne (nD a ha)).trans (L24.hk a (List.mem_cons_of_mem _ ha))), (RelS.grow (μ := ⟨m4, h1'⟩) S4 h4D), E.lw L25, hJ.le L25, upd_same, (ra.lw L25).append ⟨v, [], rfl, rv.lw gr, rfl⟩, by simp; omega, ?_⟩
              · rw [← ra.len, sizeLine_eq]
                omega
              · simp only [R.b_ok] at q
                simp only [List.append_assoc, List.singleton_append]
                exact q
    · exact q.elim
  · have hi2 : i = ds.length := by omega
    subst hi2
    rw [List.drop_length] at q
    have q : Post g W σ ⟨m1, h1'⟩ H1 ((if gdOk gd st = true then R.ok [] st else .bad).b fun xs st => mkL b (acc ++ xs) st) (VP g Q) := q
    split at q
    · rename_i hgd
      have q : Post g W σ ⟨m1, h1'⟩ H1 (mkL b (acc ++ []) st) (VP g Q) := q
      rw [List.append_nil] at q
      refine .inl ⟨(hJ _ H st Lw.refl S hgd).2, ?_⟩
      cases b with
      | false => exact q ⟨μm, h1'⟩ H L (RelS.show (μ := ⟨μm, h1'⟩) S) _ ⟨D₀, vacc, rfl, ⟨⟨(S.hid D₀ List.mem_cons_self).1, nD'⟩, hH⟩, ra.lw (lw_show (μ := ⟨μm, h1'⟩))⟩
      | true =>
        refine q ⟨μm ++ [D₀], h1'⟩ H (le_adopt hD L) (S.adopt hH ra nD') _ ⟨D₀, rfl, ?_⟩
        have sl : μm.length = st.length := S.len
        show (μm ++ [D₀])[st.length]? = some D₀
        rw [← sl]
        simp
    · exact q.elim
theorem pd_lc (b : Bool) {elt tg iter : Expr} {ifs : List Expr} {scope : Scope} {own : List (Str × Nat)} {fi : DI} {is : List Nat} {gt : DG} {ft : DT} {fe : DE} (O : Ok X g W k) (hi : PID X g W tg iter fi) (ok : BlkOk X.N X.env.scope scope own)
    (hg : ∀ (s : Shared) (H : Hp) (C : Addr) (cl : List (Str × Addr)) (fp : List Addr), PGD (X.blk s H scope (compEnvC scope cl C X.env) fp) g tg is gt) (ht : ∀ (s : Shared) (H : Hp) (C : Addr) (cl : List (Str × Addr)) (fp : List Addr), PTsD (X.blk s H scope (compEnvC scope cl C X.env) fp) g W0 ifs ft)
    (he : ∀ (s : Shared) (H : Hp) (C : Addr) (cl : List (Str × Addr)) (fp : List Addr), PD (X.blk s H scope (compEnvC scope cl C X.env) fp) g W0 elt fe) (hs : ∀ x, foldedSetIterable iter X.env x = pure x := by intro _; rfl) (hv : ∀ i ∈ is, i ∈ own.map (·.2) := by decide) :
    PD X g W (.ListComp elt [⟨tg, iter, ifs, 0⟩] scope pos) (dLc b fi gt ft fe (own.map (·.2))) :=
  PE.imp (pe_lc O.calm O.nd hi ok hg ht he hs) fun σ H Q ⟨μ, env, st, S, E, q⟩ => by
    refine bindI S E q fun μ1 H1 p st1 J L1 S1 E1 hJ h1 => ?_
    split at h1
    · rename_i hl
      exact fun D hD => lc_ok S1 E1 hJ hv hl h1 D hD
    · exact h1.elim
theorem s_lc (b : Bool) {elt tg iter : Expr} {ifs : List Expr} {scope : Scope} {own : List (Str × Nat)} {fi : DI} {is : List Nat} {gt : DG} {ft : DT} {fe : DE} {i : Nat} {y : Str} {py spos : Pos} (O : Ok X g W k) (hi : PID X g W tg iter fi) (ok : BlkOk X.N X.env.scope scope own)
    (hg : ∀ (s : Shared) (H : Hp) (C : Addr) (cl : List (Str × Addr)) (fp : List Addr), PGD (X.blk s H scope (compEnvC scope cl C X.env) fp) g tg is gt) (ht : ∀ (s : Shared) (H : Hp) (C : Addr) (cl : List (Str × Addr)) (fp : List Addr), PTsD (X.blk s H scope (compEnvC scope cl C X.env) fp) g W0 ifs ft)
    (he : ∀ (s : Shared) (H : Hp) (C : Addr) (cl : List (Str × Addr)) (fp : List Addr), PD (X.blk s H scope (compEnvC scope cl C X.env) fp) g W0 elt fe)
    (hsw : swapsWith (.ListComp elt [⟨tg, iter, ifs, 0⟩] scope pos) (some (.Name y py)) spos.line X.env = pure true) (hy : X.N[i]? = some y := by rfl) (hyl : X.env.scope.names.lookup y = some .local := by rfl) (hs : ∀ x, foldedSetIterable iter X.env x = pure x := by intro _; rfl) (hv : ∀ i ∈ is, i ∈ own.map (·.2) := by decide) :
    PSD X g W (.Assign [.Name y py] (.ListComp elt [⟨tg, iter, ifs, 0⟩] scope pos) spos) (dAsg (dLc b fi gt ft fe (own.map (·.2))) (dgName i)) :=
  PS.imp (ps_setLc O.calm O.nd hy hyl hsw hi ok hg ht he hs) fun Dn σ H ⟨μ, env, st, S, E, q⟩ => by
    have q : PostS g W μ H ((((fi env st).bind fun p st => if p.1.length ≤ 16777216 then (lcD gt ft fe p.2 p.1 (wipeE env (own.map (·.2))) st).b fun xs st => mkL b xs st else .bad)).s env fun d st => .nx (env.set i (some d)) st) Dn := q
    have q2 : Post g W σ μ H ((fi env st).bind fun p st => if p.1.length ≤ 16777216 then (lcD gt ft fe p.2 p.1 (wipeE env (own.map (·.2))) st).b fun xs st => mkL b xs st else .bad) (VP g fun x H1 => gName i x σ H1 Dn.nx) := by
      generalize ((fi env st).bind fun p st => if p.1.length ≤ 16777216 then (lcD gt ft fe p.2 p.1 (wipeE env (own.map (·.2))) st).b fun xs st => mkL b xs st else R.bad) = r at q ⊢
      cases r with
      | ok d st1 => exact fun μ1 H1 L S1 v rv => q μ1 H1 _ L S1 ((E.le L).set i rv)
      | ex c st1 => exact fun μ1 H1 L S1 => q μ1 H1 σ L S1 (E.le L)
      | bad => exact q
    refine bindI S E q2 fun μ1 H1 p st1 J L1 S1 E1 hJ h1 => ?_
    split at h1
    · rename_i hl
      exact fun D hD => lc_ok S1 E1 hJ hv hl h1 D hD
    · exact h1.elim
end
end G

namespace G
open PySem L2
/-! ### built-ins -/
def CallD (X : Cx) (g : GC) (W : WX) (f : Value) (h : List D → Store → R D) : Prop := ∃ r, CallR X f r ∧ ∀ (σ : L2.St) (μ : Mp) (H : Hp) (st : Store) (ds : List D) (vs : List V) (Q : VK), RelS g μ H st → Reps g μ H ds vs → Post g W σ μ H (h ds st) (VP g Q) → r vs H Q
section
variable {X : Cx} {g : GC} {W : WX} {k : Nat} {pos : Pos}
theorem callB_ok {r : List V → Hp → VK → Prop} {h : List D → Store → R D} {fa : DA} (hr : ∀ (σ : L2.St) (μ : Mp) (H : Hp) (st : Store) (ds : List D) (vs : List V) (Q : VK), RelS g μ H st → Reps g μ H ds vs → Post g W σ μ H (h ds st) (VP g Q) → r vs H Q) {σ : L2.St} {H : Hp} {Q : VK}
    (q : tDE g W (dCall h fa) σ H Q) : tCB r (tDA g W fa) σ H Q := by
  obtain ⟨μ, env, st, S, E, q⟩ := q
  exact bindA S E q fun μ1 H1 ds st1 vs L S1 E1 r1 h1 => hr σ μ1 H1 st1 ds vs Q S1 r1 h1
theorem pd_callB {x : Str} {id : String} {p : Pos} {e : Expr} {es : List Expr} {h : List D → Store → R D} {fa : DA} (hc : CallD X g W (.builtin id) h) (hm : X.mg x = none) (hv : bootBuiltins x = some (.builtin id)) (ha : PAD X g W (e :: es) fa) (hg : Gl X x := by rfl)
    (hn : x ≠ "__name__" := by decide) (hdb : (x == ("__debug__" : Str)) = false := by decide) (he : starEach (e :: es) X.env = (false, eval e X.env) :: starEach es X.env := by rfl) (hpl : (backTo pos (starEach es X.env)).any (·.1) = false := by rfl) : PD X g W (.Call (.Name x p) (e :: es) [] pos) (dCall h fa) := by
  obtain ⟨r, h1, h2⟩ := hc
  exact PE.imp (pe_callB h1 hg hm hv ha hn hdb he hpl) fun σ H Q q => callB_ok h2 q
theorem pd_callT {x : Str} {id : String} {p : Pos} {e : Expr} {es : List Expr} {h : List D → Store → R D} {fa : DA} (hc : CallD X g W (.type id) h) (hm : X.mg x = none) (hv : bootBuiltins x = some (.type id)) (ha : PAD X g W (e :: es) fa) (hg : Gl X x := by rfl)
    (hn : x ≠ "__name__" := by decide) (hdb : (x == ("__debug__" : Str)) = false := by decide) (he : starEach (e :: es) X.env = (false, eval e X.env) :: starEach es X.env := by rfl) (hpl : (backTo pos (starEach es X.env)).any (·.1) = false := by rfl) : PD X g W (.Call (.Name x p) (e :: es) [] pos) (dCall h fa) := by
  obtain ⟨r, h1, h2⟩ := hc
  exact PE.imp (pe_callTy h1 hg hm hv ha hn hdb he hpl) fun σ H Q q => callB_ok h2 q
theorem reps1 {μ : Mp} {H : Hp} {d : D} {vs : List V} (r : Reps g μ H [d] vs) : ∃ v, vs = [v] ∧ Rep g μ H d v := by
  obtain ⟨v, vr, e, h1, h2⟩ := r
  rw [show vr = [] from h2] at e
  exact ⟨v, e, h1⟩
theorem reps2 {μ : Mp} {H : Hp} {d d' : D} {vs : List V} (r : Reps g μ H [d, d'] vs) : ∃ v v', vs = [v, v'] ∧ Rep g μ H d v ∧ Rep g μ H d' v' := by
  obtain ⟨v, vr, e, h1, h2⟩ := r
  obtain ⟨v', e', h3⟩ := reps1 h2
  rw [e'] at e
  exact ⟨v, v', e, h1, h3⟩
/-- a call of one value -/
theorem call1 {f : Value} {r : List V → Hp → VK → Prop} (hc : CallR X f r) {h : D → Store → R D} (hr : ∀ (σ : L2.St) (μ : Mp) (H : Hp) (st : Store) (d : D) (v : V) (Q : VK), RelS g μ H st → Rep g μ H d v → Post g W σ μ H (h d st) (VP g Q) → r [v] H Q) :
    CallD X g W f (fun ds st => match ds with
      | [d] => h d st
      | _ => .bad) := ⟨r, hc, fun σ μ H st ds vs Q S rs q => by
  match ds, q with
  | [], q => exact q.elim
  | [d], q => obtain ⟨v, e, r1⟩ := reps1 rs; rw [e]; exact hr σ μ H st d v Q S r1 q
  | _ :: _ :: _, q => exact q.elim⟩
/-- a call of two values -/
theorem call2 {f : Value} {r : List V → Hp → VK → Prop} (hc : CallR X f r) {h : D → D → Store → R D} (hr : ∀ (σ : L2.St) (μ : Mp) (H : Hp) (st : Store) (d e : D) (v u : V) (Q : VK), RelS g μ H st → Rep g μ H d v → Rep g μ H e u → Post g W σ μ H (h d e st) (VP g Q) → r [v, u] H Q) :
    CallD X g W f (fun ds st => match ds with
      | [d, e] => h d e st
      | _ => .bad) := ⟨r, hc, fun σ μ H st ds vs Q S rs q => by
  match ds, q with
  | [], q => exact q.elim
  | [_], q => exact q.elim
  | [d, d2], q => obtain ⟨v, v2, e, r1, r2⟩ := reps2 rs; rw [e]; exact hr σ μ H st d d2 v v2 Q S r1 r2 q
  | _ :: _ :: _ :: _, q => exact q.elim⟩
def bAbs : List D → Store → R D := fun ds st => match ds with
  | [d] => (match d with
    | .int i => .ok (.int (if i < 0 then -i else i)) st
    | _ => .bad)
  | _ => .bad
theorem cAbs : CallD X g W (.builtin "abs") bAbs := call1 call_abs fun σ μ H st d v Q S r q => by
  cases d with
  | int i => exact ⟨i, by rw [show v = V.int i from r], q.here S _ rfl⟩
  | _ => exact q.elim
def bMax2 : List D → Store → R D := fun ds st => match ds with
  | [d, e] => (match d, e with
    | .int i, .int j => .ok (.int (if j > i then j else i)) st
    | _, _ => .bad)
  | _ => .bad
def bMin2 : List D → Store → R D := fun ds st => match ds with
  | [d, e] => (match d, e with
    | .int i, .int j => .ok (.int (if j < i then j else i)) st
    | _, _ => .bad)
  | _ => .bad
theorem cMax2 (O : Ok X g W k) : CallD X g W (.builtin "max") bMax2 := call2 (call_max2 O.calm) fun σ μ H st d e v u Q S r1 r2 q => by
  cases d with
  | int i =>
    cases e with
    | int j => exact ⟨i, j, by rw [show v = V.int i from r1, show u = V.int j from r2], q.here S _ rfl⟩
    | _ => exact q.elim
  | _ => exact q.elim
theorem cMin2 (O : Ok X g W k) : CallD X g W (.builtin "min") bMin2 := call2 (call_min2 O.calm) fun σ μ H st d e v u Q S r1 r2 q => by
  cases d with
  | int i =>
    cases e with
    | int j => exact ⟨i, j, by rw [show v = V.int i from r1, show u = V.int j from r2], q.here S _ rfl⟩
    | _ => exact q.elim
  | _ => exact q.elim
def bInt : List D → Store → R D := fun ds st => match ds with
  | [d] => (match d with
    | .int i => .ok (.int i) st
    | .bl b => .ok (.int (if b = true then 1 else 0)) st
    | _ => .bad)
  | _ => .bad
theorem cInt : CallD X g W (.type "int") bInt := call1 call_int1 fun σ μ H st d v Q S r q => by
  cases d with
  | int i => exact .inl ⟨i, by rw [show v = V.int i from r], q.here S _ rfl⟩
  | bl b => exact .inr ⟨b, by rw [show v = V.bl b from r], q.here S _ rfl⟩
  | _ => exact q.elim
/-- len -/
def bLen : List D → Store → R D := fun ds st => match ds with
  | [d] => (match d with
    | .str x => if x.length ≤ 16777216 then .ok (.int (x.length : Nat)) st else .bad
    | d => match seqA st d with
      | some ds => .ok (.int (ds.length : Nat)) st
      | none => .bad)
  | _ => .bad
theorem cLen (O : Ok X g W k) : CallD X g W (.builtin "len") bLen := call1 call_len fun σ μ H st d v Q S r q => by
  rw [O.hK]
  split at q
  · rename_i x
    split at q
    · rename_i hl
      exact ⟨v, x.length, rfl, by rw [show v = V.str x from r]; exact ⟨sizeLine_le hl, rfl⟩, q.here S _ rfl⟩
    · exact q.elim
  · split at q
    · rename_i ds hs
      obtain ⟨a, vs, e, h1, r1⟩ := seqA_ok S r hs
      refine ⟨v, ds.length, rfl, ?_, q.here S _ rfl⟩
      rw [e]
      rcases h1 with h1 | h1
      · exact .inl ⟨vs, h1, r1.len⟩
      · exact .inr ⟨vs, h1, r1.len⟩
    · exact q.elim
/-- sum of ints, a list or a tuple -/
theorem preSum_get (ns : List Int) : ∀ j, preSum (fun i => ns.getD i 0) j = (ns.take j).sum
  | 0 => by simp [preSum]
  | j + 1 => by
    rw [preSum, preSum_get ns j]
    by_cases h : j < ns.length
    · rw [List.take_succ_eq_append_getElem h, List.sum_append]
      simp [List.getD, List.getElem?_eq_getElem h]
    · rw [List.take_of_length_le (by omega), List.take_of_length_le (by omega)]
      simp [List.getD, List.getElem?_eq_none (by omega : ns.length ≤ j)]
theorem cr_sumT (hc : X.calm = true) : CallR X (.builtin "sum") (fun vs H Q => ∃ (a : Addr) (ns : List Int), vs = [V.ref a] ∧ SqT X.K H a (ns.map V.int) ∧ Q (.int ns.sum) H) := by
  intro pins s σ H vs us Q I r h
  obtain ⟨a, ns, rfl, hs, q⟩ := h
  obtain ⟨u, rfl, ru⟩ := vals1 r
  obtain rfl : u = Value.ref a := ru
  obtain ⟨its, rv, pt, _⟩ := I.tuple hs
  have pt' : s.heap.IsTuple a its.toArray := pt
  have hlt : a < s.heap.objs.size := pt.lt
  have hint := intsAre_of rv
  refine call_sum_walkG (wpAny_pyIter_tuple pt' ⟨s.heap.objs.size, _, _, _, _, _, fun i => ns.getD i 0, rfl, Walks.tuple (A := X.A.in1) (I.ok.hd hc) s.heap.objs.size a (Nat.ne_of_lt hlt) its.toArray, ⟨⟨_, Heap.get?_push_size _ rfl, rfl, rfl⟩, ?_⟩, fun b hb => ?_, fun i v hv => ?_, fun h' tk t' hk => ?_⟩)
  · exact pt'.at fun o e => Heap.get?_push_of_some _ e
  · show b < (s.heap.push _).objs.size
    rw [Heap.size_push]
    rcases List.mem_cons.mp hb with z | z
    · rw [z]; exact Nat.lt_succ_self _
    · rw [List.mem_singleton.mp z]; exact Nat.lt_succ_of_lt hlt
  · exact PyProof.Rows.IntsAre.int_at hint i v (by simpa using hv)
  · have hsum : preSum (fun i => ns.getD i 0) its.toArray.size = ns.sum := by
      rw [preSum_get, List.take_of_length_le]
      rw [List.size_toArray, ← rv.length, List.length_map]
      exact Nat.le_refl _
    rw [hsum]
    exact ⟨.int ns.sum, H, I.kept fun b o e => hk b o (by simp; intro z; rw [z] at e; exact Nat.lt_irrefl _ (Heap.lt_size e)) (Heap.get?_push_of_some _ e), ⟨_, rfl⟩, q⟩
theorem callR_or {f : Value} {r r' : List V → Hp → VK → Prop} (h : CallR X f r) (h' : CallR X f r') : CallR X f (fun xs H Q => r xs H Q ∨ r' xs H Q) := fun pins s σ H xs us Q I rs q => q.elim (h pins s σ H xs us Q I rs) (h' pins s σ H xs us Q I rs)
def bSum : List D → Store → R D := fun ds st => match ds with
  | [d] => (match seqA st d with
    | some ds => (match intsD ds with
      | some ns => .ok (.int ns.sum) st
      | none => .bad)
    | none => .bad)
  | _ => .bad
theorem cSum (O : Ok X g W k) : CallD X g W (.builtin "sum") bSum := call1 (callR_or (cr_sum O.calm) (cr_sumT O.calm)) fun σ μ H st d v Q S r q => by
  rw [O.hK]
  split at q
  · rename_i ds hs
    split at q
    · rename_i ns hn
      obtain ⟨a, vs, e, h1, r1⟩ := seqA_ok S r hs
      have e2 := ints_ok hn r1
      subst e2
      rcases h1 with h1 | h1
      · exact .inl ⟨a, ns, by rw [e], h1, q.here S _ rfl⟩
      · exact .inr ⟨a, ns, by rw [e], h1, q.here S _ rfl⟩
    · exact q.elim
  · exact q.elim
/-- list(x), tuple(x) -/
def bList (b : Bool) : List D → Store → R D := fun ds st => match ds with
  | [d] => (match seqA st d with
    | some ds => mkL b ds st
    | none => .bad)
  | _ => .bad
theorem cList {b : Bool} (O : Ok X g W k) : CallD X g W (.type "list") (bList b) := call1 call_list_of fun σ μ H st d v Q S r q => by
  rw [O.hK]
  split at q
  · rename_i ds hs
    obtain ⟨a, vs, e, h1, r1⟩ := seqA_ok S r hs
    exact ⟨a, vs, by rw [e], h1, fun l hl => mkL_ok S r1 q hl⟩
  · exact q.elim
def bTuple : List D → Store → R D := fun ds st => match ds with
  | [d] => (match d with
    | .tup ds => .ok (.tup ds) st
    | d => match seqL st d with
      | some ds => .ok (.tup ds) st
      | none => .bad)
  | _ => .bad
theorem cTuple (O : Ok X g W k) : CallD X g W (.type "tuple") bTuple := call1 call_tuple_of fun σ μ H st d v Q S r q => by
  rw [O.hK]
  split at q
  · obtain ⟨a, vs, e, h1, r1⟩ := seqT_ok r rfl
    exact ⟨a, vs, by rw [e], .inr ⟨h1, by rw [← e]; exact q.here S _ r⟩⟩
  · split at q
    · rename_i ds hs
      obtain ⟨a, vs, e, h1, r1⟩ := seqL_ok S r hs
      exact ⟨a, vs, by rw [e], .inl ⟨h1, fun l hl => mkT_ok S r1 q hl⟩⟩
    · exact q.elim
/-- max, min of a list of ints -/
def maxI : List Int → Option Int
  | [] => none
  | n :: ns => some (ns.foldl max n)
def minI : List Int → Option Int
  | [] => none
  | n :: ns => some (ns.foldl min n)
theorem foldl_max (ns : List Int) : ∀ n : Int, (ns.foldl max n = n ∨ ns.foldl max n ∈ ns) ∧ n ≤ ns.foldl max n ∧ ∀ y ∈ ns, y ≤ ns.foldl max n := by
  induction ns with
  | nil => intro n; simp
  | cons m ns ih =>
    intro n
    obtain ⟨h1, h2, h3⟩ := ih (max n m)
    simp only [List.foldl_cons]
    refine ⟨?_, by omega, fun y hy => ?_⟩
    · rcases h1 with h1 | h1
      · by_cases e : n ≤ m
        · right; rw [h1, Int.max_eq_right e]; exact List.mem_cons_self
        · left; rw [h1, Int.max_eq_left (by omega)]
      · right; exact List.mem_cons_of_mem _ h1
    · rcases List.mem_cons.mp hy with e | e
      · rw [e]; omega
      · exact h3 y e
theorem foldl_min (ns : List Int) : ∀ n : Int, (ns.foldl min n = n ∨ ns.foldl min n ∈ ns) ∧ ns.foldl min n ≤ n ∧ ∀ y ∈ ns, ns.foldl min n ≤ y := by
  induction ns with
  | nil => intro n; simp
  | cons m ns ih =>
    intro n
    obtain ⟨h1, h2, h3⟩ := ih (min n m)
    simp only [List.foldl_cons]
    refine ⟨?_, by omega, fun y hy => ?_⟩
    · rcases h1 with h1 | h1
      · by_cases e : m ≤ n
        · right; rw [h1, Int.min_eq_right e]; exact List.mem_cons_self
        · left; rw [h1, Int.min_eq_left (by omega)]
      · right; exact List.mem_cons_of_mem _ h1
    · rcases List.mem_cons.mp hy with e | e
      · rw [e]; omega
      · exact h3 y e
def bMaxL : List D → Store → R D := fun ds st => match ds with
  | [d] => (match seqL st d with
    | some ds => (match (intsD ds).bind maxI with
      | some n => .ok (.int n) st
      | none => .bad)
    | none => .bad)
  | _ => .bad
def bMinL : List D → Store → R D := fun ds st => match ds with
  | [d] => (match seqL st d with
    | some ds => (match (intsD ds).bind minI with
      | some n => .ok (.int n) st
      | none => .bad)
    | none => .bad)
  | _ => .bad
theorem cMaxL (O : Ok X g W k) : CallD X g W (.builtin "max") bMaxL := call1 (cr_max O.calm) fun σ μ H st d v Q S r q => by
  rw [O.hK]
  split at q
  · rename_i ds hs
    split at q
    · rename_i n hn
      obtain ⟨a, vs, e, h1, r1⟩ := seqL_ok S r hs
      cases hi : intsD ds with
      | none => rw [hi] at hn; cases hn
      | some ns =>
        rw [hi] at hn
        have e2 := ints_ok hi r1
        subst e2
        cases ns with
        | nil => cases hn
        | cons m ns =>
          cases hn
          obtain ⟨f1, f2, f3⟩ := foldl_max ns m
          refine ⟨a, m :: ns, by rw [e], h1, Nat.succ_pos _, fun x hx hy => ?_⟩
          have hx1 : ns.foldl max m ∈ m :: ns := f1.elim (fun z => by rw [z]; exact List.mem_cons_self) (List.mem_cons_of_mem _)
          have a1 := hy _ hx1
          have a2 : x ≤ ns.foldl max m := (List.mem_cons.mp hx).elim (fun z => by rw [z]; exact f2) (f3 x)
          rw [show x = ns.foldl max m by omega]
          exact q.here S _ rfl
    · exact q.elim
  · exact q.elim
theorem cMinL (O : Ok X g W k) : CallD X g W (.builtin "min") bMinL := call1 (cr_min O.calm) fun σ μ H st d v Q S r q => by
  rw [O.hK]
  split at q
  · rename_i ds hs
    split at q
    · rename_i n hn
      obtain ⟨a, vs, e, h1, r1⟩ := seqL_ok S r hs
      cases hi : intsD ds with
      | none => rw [hi] at hn; cases hn
      | some ns =>
        rw [hi] at hn
        have e2 := ints_ok hi r1
        subst e2
        cases ns with
        | nil => cases hn
        | cons m ns =>
          cases hn
          obtain ⟨f1, f2, f3⟩ := foldl_min ns m
          refine ⟨a, m :: ns, by rw [e], h1, Nat.succ_pos _, fun x hx hy => ?_⟩
          have hx1 : ns.foldl min m ∈ m :: ns := f1.elim (fun z => by rw [z]; exact List.mem_cons_self) (List.mem_cons_of_mem _)
          have a1 := hy _ hx1
          have a2 : ns.foldl min m ≤ x := (List.mem_cons.mp hx).elim (fun z => by rw [z]; exact f2) (f3 x)
          rw [show x = ns.foldl min m by omega]
          exact q.here S _ rfl
    · exact q.elim
  · exact q.elim
end
end G

namespace G
open PySem L2
/-! ### a def -/
def runB (n : Nat) (fb : DS) (args : List D) (st : Store) : R D := match fb (args.map some ++ List.replicate (n - args.length) none) st with
  | .nx _ st => .ok .non st
  | .rt d st => .ok d st
  | .ex c _ st => .ex c st
  | _ => .bad
abbrev bodyCx (P : Program) (w : World) (K : PySem.W.Frag) (mg : Str → Option Value) (base : Heap) (N : List Str) (qual : Str) (sc : Scope) (f : Addr) (cdv : Value) (A : Around) (outer : List PySem.Env) (s : Shared) (H : Hp) (E : XK) : Cx :=
  cxOf (L2.CX P w) P w K mg base N qual sc f cdv A outer s H E
abbrev WB (E : XK) : WX := fun cls d _ H => E cls d H
section
variable {P : Program} {w : World} {mg : Str → Option Value} {base : Heap} {g : GC}
theorem reps_env {μ : Mp} {H : Hp} {ds : List D} {vs : List V} (r : Reps g μ H ds vs) (n : Nat) : RelE g μ H (ds.map some ++ List.replicate (n - ds.length) none) (vs.map some ++ List.replicate (n - vs.length) none) := by
  refine ⟨by simp [r.len], fun i d h => ?_⟩
  by_cases hi : i < ds.length
  · rw [List.getElem?_append_left (by simpa using hi), List.getElem?_map] at h
    cases e : ds[i]? with
    | none => rw [e] at h; cases h
    | some d' =>
      rw [e] at h
      have h : d' = d := by cases h; rfl
      subst h
      obtain ⟨v, h1, h2⟩ := r.get e
      exact ⟨v, by rw [List.getElem?_append_left (by rw [List.length_map, ← r.len]; exact hi), List.getElem?_map, h1] <;> rfl, h2⟩
  · rw [List.getElem?_append_right (by simpa using hi), List.getElem?_replicate] at h
    split at h <;> cases h
/-- THE RULE of a def -/
theorem fn_d {x qual : Str} {st : Stmt} {fa : Addr} {fd : FuncData} {N ps : List Str} {j n : Nat} {fb : DS} (F : Fun g.K x qual st fa fd) (hm : mg x = some (.ref fa)) (S : FnScope N ps (defScope st)) (hb : Binds g.K fd ps []) (hn : ps.length = n)
    (body : ∀ (cdv : Value) (A : Around) (outer : List PySem.Env) (s : Shared) (H : Hp) (E : XK), Ok (bodyCx P w g.K mg base N qual (defScope st) fa cdv A outer s H E) g (WB E) j → PSsD (bodyCx P w g.K mg base N qual (defScope st) fa cdv A outer s H E) g (WB E) (defBody st) fb) :
    FnD P w mg base g (j + 1) x n (runB N.length fb) := by
  refine ⟨fa, fd, ps, hm, F.kp, hb, F.okX S (fun vs H Q E h => h.1.trans hn.symm) fun cdv A outer s H vs Q E hr h => ⟨_, body cdv A outer s H E ⟨rfl, takes_of rfl rfl rfl rfl, passes_of rfl, rfl, S.nd, hr⟩, ?_⟩⟩
  obtain ⟨hl, μ, st0, ds, S0, r, q⟩ := h
  refine ⟨μ, _, st0, S0, reps_env r N.length, ?_⟩
  unfold runB at q
  generalize fb (ds.map some ++ List.replicate (N.length - ds.length) none) st0 = rr at q ⊢
  cases rr with
  | nx env st1 => exact fun μ' H' σ' L S' _ => q μ' H' L S' _ rfl
  | rt d st1 => exact fun μ' H' v L S' rv => q μ' H' L S' v rv
  | bk env st1 => exact q.elim
  | ct env st1 => exact q.elim
  | ex c env st1 => exact fun μ' H' σ' L S' _ => q μ' H' L S'
  | bad => exact q.elim
theorem FnD.mono {j k : Nat} {x : Str} {n : Nat} {f : List D → Store → R D} (F : FnD P w mg base g j x n f) (h : j ≤ k) : FnD P w mg base g k x n f := by
  obtain ⟨fa, fd, ps, h1, h2, h3, h4⟩ := F
  exact ⟨fa, fd, ps, h1, h2, h3, h4.mono h⟩
/-- less is promised -/
theorem FnD.imp {j : Nat} {x : Str} {n : Nat} {f h : List D → Store → R D} (F : FnD P w mg base g j x n f)
    (hi : ∀ (E : XK) (Q : VK) (μ : Mp) (H : Hp) (st : Store) (ds : List D) (vs : List V), RelS g μ H st → Reps g μ H ds vs → Post g (WB E) [] μ H (h ds st) (VP g Q) → Post g (WB E) [] μ H (f ds st) (VP g Q)) : FnD P w mg base g j x n h := by
  obtain ⟨fa, fd, ps, h1, h2, h3, h4⟩ := F
  exact ⟨fa, fd, ps, h1, h2, h3, h4.imp fun vs H Q E ⟨hl, μ, st, ds, S, r, q⟩ => ⟨hl, μ, st, ds, S, r, hi E Q μ H st ds vs S r q⟩⟩
/-- the same function, said otherwise -/
theorem FnD.eq {j : Nat} {x : Str} {n : Nat} {f h : List D → Store → R D} (F : FnD P w mg base g j x n f) (e : ∀ ds st, h ds st ≠ .bad → f ds st = h ds st) : FnD P w mg base g j x n h := F.imp fun E Q μ H st ds vs S r q => by
  by_cases hb : h ds st = .bad
  · rw [hb] at q; exact q.elim
  · rw [e ds st hb]; exact q
end

/-! ### what a def made is let go -/
mutual
/-- no thing of the store from the n-th on -/
def D.cl (n : Nat) : D → Bool
  | .tup xs => D.cls n xs
  | .lst xs => D.cls n xs
  | .dic _ xs => D.cls n xs
  | .ref m => decide (m < n)
  | _ => true
def D.cls (n : Nat) : List D → Bool
  | [] => true
  | x :: xs => D.cl n x && D.cls n xs
end
def fsCl (n : Nat) : List (Str × D) → Bool
  | [] => true
  | (_, d) :: fs => d.cl n && fsCl n fs
def SO.cl (n : Nat) : SO → Bool
  | .lst xs => D.cls n xs
  | .dic _ xs => D.cls n xs
  | .ins _ fs => fsCl n fs
def stCl (n : Nat) : List SO → Bool
  | [] => true
  | o :: os => o.cl n && stCl n os
/-- a new list that is handed back is nobody's any more -/
def letGo (n : Nat) (st : Store) : D → D
  | .ref m => if n ≤ m then (match lstAt st m with
    | some ds => .lst ds
    | none => .ref m) else .ref m
  | d => d
def trim (f : List D → Store → R D) : List D → Store → R D := fun ds st => match f ds st with
  | .ok d st' => if (letGo st.length st' d).cl st.length = true ∧ stCl st.length (st'.take st.length) = true ∧ st.length ≤ st'.length then .ok (letGo st.length st' d) (st'.take st.length) else .bad
  | .ex c st' => if stCl st.length (st'.take st.length) = true ∧ st.length ≤ st'.length then .ex c (st'.take st.length) else .bad
  | .bad => .bad
section
variable {g : GC} {μ μ' : Mp} {H : Hp}
mutual
theorem cl_rep (hm : ∀ i : Nat, i < μ.m.length → μ'.m[i]? = μ.m[i]?) (ho : ∀ a, μ'.out a → μ.out a) : ∀ {d : D} {v : V}, d.cl μ.m.length = true → Rep g μ' H d v → Rep g μ H d v
  | .non, _, _, r => r
  | .bl _, _, _, r => r
  | .int _, _, _, r => r
  | .str _, _, _, r => r
  | .tup ds, v, h, r => by
    obtain ⟨a, vs, e, h1, h2⟩ := r
    refine ⟨a, vs, e, ?_, cls_rep hm ho h h2⟩
    rcases h1 with ⟨n, q⟩ | q
    · exact .inl ⟨ho a n, q⟩
    · exact .inr q
  | .lst ds, v, h, r => by
    obtain ⟨a, vs, e, ⟨n, q⟩, h2⟩ := r
    exact ⟨a, vs, e, ⟨ho a n, q⟩, cls_rep hm ho h h2⟩
  | .dic ks ds, v, h, r => by
    obtain ⟨a, vs, o, e, n, q, h1, h3, h2⟩ := r
    exact ⟨a, vs, o, e, ho a n, q, h1, h3, cls_rep hm ho h h2⟩
  | .ref n, v, h, r => by
    obtain ⟨a, e, q⟩ := r
    have h : decide (n < μ.m.length) = true := h
    rw [decide_eq_true_eq] at h
    exact ⟨a, e, (hm n h).symm.trans q⟩
  | .fn _, _, _, r => r
  | .lam n, v, h, r => by
    obtain ⟨f, c, l, pm, ctv, e, e1, ⟨n1, h1⟩, n2, h2⟩ := r
    exact ⟨f, c, l, pm, ctv, e, e1, ⟨ho f n1, h1⟩, ho c n2, h2⟩
  | .scr ns, v, h, r => by
    obtain ⟨a, e, q⟩ := r
    refine ⟨a, e, ?_⟩
    rcases q with ⟨n, q⟩ | q
    · exact .inl ⟨ho a n, q⟩
    · exact .inr q
theorem cls_rep (hm : ∀ i : Nat, i < μ.m.length → μ'.m[i]? = μ.m[i]?) (ho : ∀ a, μ'.out a → μ.out a) : ∀ {ds : List D} {vs : List V}, D.cls μ.m.length ds = true → Reps g μ' H ds vs → Reps g μ H ds vs
  | [], _, _, r => r
  | d :: ds, vs, h, r => by
    obtain ⟨v, vr, e, h1, h2⟩ := r
    have h : (D.cl μ.m.length d && D.cls μ.m.length ds) = true := h
    rw [Bool.and_eq_true] at h
    exact ⟨v, vr, e, cl_rep hm ho h.1 h1, cls_rep hm ho h.2 h2⟩
end
theorem fsCl_rep (hm : ∀ i : Nat, i < μ.m.length → μ'.m[i]? = μ.m[i]?) (ho : ∀ a, μ'.out a → μ.out a) : ∀ {fs : List (Str × D)} {gs : List (Str × V)}, fsCl μ.m.length fs = true → RepF g μ' H fs gs → RepF g μ H fs gs
  | [], _, _, r => r
  | (f, d) :: fs, vs, h, r => by
    obtain ⟨v, vr, e, h1, h2⟩ := r
    have h : (D.cl μ.m.length d && fsCl μ.m.length fs) = true := h
    rw [Bool.and_eq_true] at h
    exact ⟨v, vr, e, cl_rep hm ho h.1 h1, fsCl_rep hm ho h.2 h2⟩
theorem soCl_rep (hm : ∀ i : Nat, i < μ.m.length → μ'.m[i]? = μ.m[i]?) (ho : ∀ a, μ'.out a → μ.out a) {a : Addr} {so : SO} (h : so.cl μ.m.length = true) (r : RepO g μ' H a so) : RepO g μ H a so := by
  cases so with
  | lst ds => obtain ⟨vs, e, r⟩ := r; exact ⟨vs, e, cls_rep hm ho h r⟩
  | dic ks ds => obtain ⟨vs, o, e, d, l, r⟩ := r; exact ⟨vs, o, e, d, l, cls_rep hm ho h r⟩
  | ins C fs => obtain ⟨dx, gs, e, r⟩ := r; exact ⟨dx, gs, e, fsCl_rep hm ho h r⟩
theorem stCl_at : ∀ {os : List SO} {n i : Nat} {o : SO}, stCl n os = true → os[i]? = some o → o.cl n = true
  | [], _, _, _, _, h => by simp at h
  | o :: os, n, 0, _, h, e => by
    simp at e
    subst e
    have h : (o.cl n && stCl n os) = true := h
    exact (Bool.and_eq_true_iff.mp h).1
  | o :: os, n, i + 1, _, h, e => by
    have h : (o.cl n && stCl n os) = true := h
    exact stCl_at (Bool.and_eq_true_iff.mp h).2 (by simpa using e)
variable {P : Program} {w : World} {mg : Str → Option Value} {base : Heap}
theorem scope_ok {st st' : Store} {H' : Hp} (S : RelS g μ H st) (L : Le μ H μ' H') (S' : RelS g μ' H' st') (hl : st.length ≤ st'.length) (hc : stCl st.length (st'.take st.length) = true) :
    (∀ i : Nat, i < μ.m.length → μ'.m[i]? = μ.m[i]?) ∧ (∀ a, μ'.out a → μ.out a) ∧ Le μ H μ H' ∧ RelS g μ H' (st'.take st.length) := by
  have hm : ∀ i : Nat, i < μ.m.length → μ'.m[i]? = μ.m[i]? := fun i hi => by
    rw [List.getElem?_eq_getElem hi]
    exact L.pre i _ (List.getElem?_eq_getElem hi)
  have ho : ∀ a, μ'.out a → μ.out a := fun a n => ⟨fun z => by
    obtain ⟨i, hi⟩ := List.mem_iff_getElem?.mp z
    exact n.1 (List.mem_of_getElem? (L.pre i a hi)), fun z => n.2 (by rw [L.hh]; exact z)⟩
  refine ⟨hm, ho, ⟨⟨fun _ _ h => h, fun a u n r t => ⟨n, (L.keep a u n r t).2⟩, L.keepL⟩, rfl, L.hk⟩, ⟨?_, S.nd, fun a ha => ?_, fun n a so h1 h2 => ?_, S'.tabs⟩⟩
  · rw [List.length_take, S.len]
    omega
  · obtain ⟨n, vs, e⟩ := S.hid a ha
    exact ⟨n, vs, (L.hk a ha).trans e⟩
  · have hn : n < st.length := by
      rw [← S.len]
      exact (List.getElem?_eq_some_iff.mp h1).1
    have hc2 := stCl_at hc h2
    rw [List.getElem?_take_of_lt hn] at h2
    exact soCl_rep hm ho (by rw [S.len]; exact hc2) (S'.at_ n a so (L.pre n a h1) h2)
theorem FnD.scope {j : Nat} {x : Str} {n : Nat} {f : List D → Store → R D} (F : FnD P w mg base g j x n f) : FnD P w mg base g j x n (trim f) := F.imp fun E Q μ H st ds vs S r q => by
  unfold trim at q
  generalize f ds st = rr at q ⊢
  cases rr with
  | bad => exact q
  | ex c st' =>
    have q : Post g (WB E) [] μ H (if stCl st.length (st'.take st.length) = true ∧ st.length ≤ st'.length then .ex c (st'.take st.length) else .bad) (VP g Q) := q
    split at q
    · rename_i hc
      intro μ' H' L S'
      obtain ⟨_, _, h3, h4⟩ := scope_ok S L S' hc.2 hc.1
      exact q μ H' h3 h4
    · exact q.elim
  | ok d st' =>
    have q : Post g (WB E) [] μ H (if (letGo st.length st' d).cl st.length = true ∧ stCl st.length (st'.take st.length) = true ∧ st.length ≤ st'.length then .ok (letGo st.length st' d) (st'.take st.length) else .bad) (VP g Q) := q
    split at q
    · rename_i hc
      intro μ' H' L S' v rv
      obtain ⟨h1, h2, h3, h4⟩ := scope_ok S L S' hc.2.2 hc.2.1
      refine q μ H' h3 h4 v ?_
      have hcl := hc.1
      revert hcl
      cases d with
      | ref m =>
        unfold letGo
        by_cases hm : st.length ≤ m
        · simp only [hm, if_true]
          cases e : lstAt st' m with
          | none => intro hcl; exact cl_rep h1 h2 (by rw [S.len]; exact hcl) rv
          | some es =>
            intro hcl
            obtain ⟨a, ea, ha⟩ := rv
            obtain ⟨ws, e2, r2⟩ := S'.at_ m a _ ha (lstAt_eq e)
            have hcl : D.cls st.length es = true := hcl
            refine ⟨a, ws, ea, ⟨⟨fun z => ?_, fun z => ?_⟩, e2⟩, cls_rep h1 h2 (by rw [S.len]; exact hcl) r2⟩
            · obtain ⟨i, hi⟩ := List.mem_iff_getElem?.mp z
              have := nodup_inj S'.nd (L.pre i a hi) ha
              have h9 := (List.getElem?_eq_some_iff.mp hi).1
              rw [S.len] at h9
              omega
            · exact (S'.hid a (by rw [L.hh]; exact z)).1 (List.mem_of_getElem? ha)
        · simp only [hm, if_false]
          intro hcl
          exact cl_rep h1 h2 (by rw [S.len]; exact hcl) rv
      | _ => intro hcl; exact cl_rep h1 h2 (by rw [S.len]; exact hcl) rv
    · exact q.elim
end

/-! ### raise -/
/-- an own exception class over ValueError -/
structure ExD (g : GC) (mg : Str → Option Value) (x : Str) : Prop where
  gC : mg x = some (.ref (g.ga x))
  xC : PySem.W.excIn g.K (g.ga x) [.type "ValueError", .type "Exception", .type "BaseException", .type "object"] "ValueError.__new__" = true
  kC : PySem.W.keepIn g.K (.ref (g.ga x)) = true
  bC : PySem.W.subIn g.K (.ref (g.ga x)) (.type "BaseException") = some true
  tC : PySem.W.typeIn g.K (.ref (g.ga x)) = some (.type "type")
def dRaise (x : Str) : DS := fun env st => .ex x env st
section
variable {X : Cx} {g : GC} {W : WX} {k : Nat} {pos : Pos}
theorem s_raise {x m : Str} {jj : Nat} {p p2 pos2 : Pos} (O : Ok X g W k) (T : ExD g X.mg x) (hg : Gl X x := by rfl) (hdb : (x == ("__debug__" : Str)) = false := by decide) : PSD X g W (.Raise (some (.Call (.Name x p) [.Constant (.str m) jj p2] [] pos2)) none pos) (dRaise x) :=
  PS.imp (ps_raise O.calm O.tk (pmk_own PySem.F.excBase_ValueError (by rw [O.hK]; exact T.xC) T.gC (by rw [O.hK]; exact T.kC) (raises_own (by rw [O.hK]; exact T.bC) (by rw [O.hK]; exact T.tC)) hg hdb)) fun Dn σ H ⟨μ, env, st, S, E, q⟩ => q μ H σ Le.refl S E

/-! ### try: body, except x: suite -/
def noEx (r : SR) : SR := match r with
  | .ex _ _ _ => .bad
  | r => r
def dTry (tb : List (Str × Bool)) (fb fs : DS) : DS := fun env st => match fb env st with
  | .ex c env st => (match tb.lookup c with
    | some true => noEx (fs env st)
    | some false => .ex c env st
    | none => .bad)
  | r => r
/-- which classes an except clause names -/
def Catches (g : GC) (x : Str) (tb : List (Str × Bool)) : Prop := ∀ p ∈ tb, PySem.W.exmOne g.K (.ref (g.ga p.1)) (.ref (g.ga x)) = some p.2
theorem lookup_mem {α : Type} : ∀ {l : List (Str × α)} {c : Str} {b : α}, l.lookup c = some b → (c, b) ∈ l
  | [], _, _, h => by cases h
  | (x, y) :: l, c, b, h => by
    rw [List.lookup_cons] at h
    cases e : c == x with
    | true =>
      rw [e] at h
      cases h
      rw [beq_iff_eq.mp e]
      exact List.mem_cons_self
    | false =>
      rw [e] at h
      exact List.mem_cons_of_mem _ (lookup_mem h)
theorem s_try {x : Str} {np pos' : Pos} {body suite : List Stmt} {b₀ : Stmt} {tb : List (Str × Bool)} {fb fs : DS} (O : Ok X g W k) (T : ExD g X.mg x) (C : Catches g x tb) (hs : X.stack = X.env :: X.outer) (hf : X.env.frame = some X.env.locals)
    (hb : ∀ (W' : WX) (pn : List (Addr × Obj)) (xe : Value → Shared → Prop), Ok (X.tr pn xe) g W' k → PSsD (X.tr pn xe) g W' body fb)
    (hsu : ∀ (a : Addr) (oe : Obj) (pn : List (Addr × Obj)), PSsD (X.suite a ((a, oe) :: pn)) g W0 (b₀ :: suite) fs) (hg : Gl X x := by rfl) (hdb : (x == ("__debug__" : Str)) = false := by decide) :
    PSD X g W (.Try body [.ExceptHandler (some (.Name x np)) none (b₀ :: suite) pos'] [] [] pos) (dTry tb fb fs) :=
  PS.imp (ps_try_only (tb := fun W' => tDS g W' fb) hs hf ⟨hg, hdb, .inl T.gC⟩ O.tk (fun W' pn xe tk hp => hb W' pn xe ⟨O.hK, tk, hp, O.calm, O.nd, O.room⟩) (fun a oe cls d pn _ _ => hsu a oe pn)) fun Dn σ H ⟨μ, env, st, S, E, q⟩ => by
    refine ⟨μ, env, st, S, E, ?_⟩
    unfold dTry at q
    generalize fb env st = r at q ⊢
    cases r with
    | ex c env1 st1 =>
      intro μ1 H1 σ1 L1 S1 E1
      have q : PostS g W μ H (match tb.lookup c with
        | some true => noEx (fs env1 st1)
        | some false => .ex c env1 st1
        | none => .bad) Dn := q
      cases e : tb.lookup c with
      | none => rw [e] at q; exact q.elim
      | some b =>
        rw [e] at q
        refine ⟨b, by rw [O.hK]; exact C _ (lookup_mem e), fun hb a ha => ?_, fun hb => ?_⟩
        · subst hb
          have q2 : PostS g W μ1 H1 (noEx (fs env1 st1)) Dn := PostS.le L1 q
          refine ⟨μ1, env1, st1, S1, E1, ?_⟩
          generalize fs env1 st1 = r at q2 ⊢
          cases r with
          | ex c env2 st2 => exact q2.elim
          | nx env1 st1 => exact q2
          | rt d st1 => exact q2
          | bk env1 st1 => exact q2
          | ct env1 st1 => exact q2
          | bad => exact q2
        · subst hb
          exact q μ1 H1 σ1 L1 S1 E1
    | nx env1 st1 => exact q
    | rt d st1 => exact q
    | bk env1 st1 => exact q
    | ct env1 st1 => exact q
    | bad => exact q
end
end G

namespace G
open PySem L2
/-! ### told(lambda: e) -/
/-- def x(a): try: return a() / except e: return ret -/
structure ToldF (g : GC) (mg : Str → Option Value) (x e ret : Str) (gA : Addr) (pg : Arguments) (bg : List Stmt) (sg : Scope) (kV doc pm cdv ct oc : Value) (an od : Option Addr) (osl : Array (Option Value)) (Ng : List Str) (a : Str) : Prop where
  gm : mg x = some (.ref gA)
  kp : PySem.W.keepIn g.K (.ref gA) = true
  lk : g.K.lookup gA = some ⟨oc, od, .func (PySem.W.fnOf x x pg bg sg .none kV doc pm an cdv ct), osl⟩
  cd : PySem.W.codeIn g.K cdv x = true
  bi : L2.Binds g.K (PySem.W.fnOf x x pg bg sg .none kV doc pm an cdv ct) [a] []
  sc : FnScope Ng [a] sg
  n0 : Ng[0]? = some a
  vi : Vis sg a
  st : ∀ f : Addr, (L2.start Ng [V.ref f])[0]? = some (some (V.ref f))
  bd : ∃ (jj : Nat) (p1 p2 p3 p4 p5 p6 p7 p8 : Pos), bg = [.Try [.Return (some (.Call (.Name a p1) [] [] p2)) p3] [.ExceptHandler (some (.Name e p4)) none [.Return (some (.Constant (.str ret) jj p5)) p6] p7] [] [] p8]
  ge : sg.names.lookup e = some .globalImplicit
  de : (e == ("__debug__" : Str)) = false
  da : (a == ("__debug__" : Str)) = false
  dc : (a == ("__classdict__" : Str)) = false
  dx : (x == ("__debug__" : Str)) = false
def ToldD (g : GC) (mg : Str → Option Value) (x e ret : Str) : Prop := ∃ gA pg bg sg kV doc pm cdv ct oc an od osl Ng a, ToldF g mg x e ret gA pg bg sg kV doc pm cdv ct oc an od osl Ng a
/-- the frame's code object has its table -/
def Lm (X : Cx) (g : GC) : Prop := ∃ c P, LamX.TabB X.base X.mg c P ∧ X.env.code = .ref c ∧ (P, X.env.qual ++ "<lambda>") ∈ g.T ∧ ∀ p ∈ g.T, p.1 = P → p.2 = X.env.qual ++ "<lambda>"
theorem ext_le {g : GC} {μ : Mp} {H H1 : Hp} {st : Store} (S : RelS g μ H st) (e : LamX.ExtN H H1) (T1 : LamX.Tabs g.T H1) : Le μ H μ H1 ∧ RelS g μ H1 st := by
  have L : Le μ H μ H1 := by
    refine ⟨⟨fun _ _ h => h, fun a u n r t => ⟨n, ?_⟩, fun a vs n h => e a _ h (by intro _ z; cases z)⟩, rfl, fun a ha => ?_⟩
    · rcases r with r | ⟨o, r⟩
      · exact .inl (e a u r t)
      · exact .inr ⟨o, e a _ r (by intro _ z; cases z)⟩
    · obtain ⟨_, vs, h⟩ := S.hid a ha
      exact (e a _ h (by intro _ z; cases vs <;> cases z)).trans h.symm
  refine ⟨L, S.len, S.nd, fun a ha => ?_, fun n a so h1 h2 => ?_, T1⟩
  · obtain ⟨n, vs, h⟩ := S.hid a ha
    exact ⟨n, vs, (L.hk a ha).trans h⟩
  · have r := S.at_ n a so h1 h2
    obtain ⟨u, h, m⟩ := r.there
    exact r.move L.toLw ((e a u h (by intro _ z; rw [z] at m; exact m)).trans h.symm)
def dTold (tb : List Str) (ret : Str) (fe : DE) : DE := fun env st => match fe env st with
  | .ok d st => .ok d st
  | .ex c st => if tb.contains c = true then .ok (.str ret) st else .bad
  | .bad => .bad
section
variable {X : Cx} {g : GC} {W : WX} {k : Nat} {pos : Pos}
theorem pd_told {x e ret : Str} {params : Arguments} {body : Expr} {scope : Scope} {p lpos : Pos} {tb : List Str} {fe : DE} {j : Nat} (O : Ok X g W k) (M : Lm X g) (T : ToldD g X.mg x e ret) (ET : ExD g X.mg e) (C : Catches g e (tb.map fun c => (c, true))) (hj : j + 2 ≤ k)
    (hb : ∀ (A : Around) (outer : List PySem.Env) (s : Shared) (H : Hp) (E : XK) (f c' : Addr), Ok (LamX.lamCx X A outer s H E scope f c') g (WB E) j → PD (LamX.lamCx X A outer s H E scope f c') g (WB E) body fe)
    (hg : Gl X x := by rfl) (hl : LamX.lamSB X.env.scope scope = true := by rfl) (hdef : defaultsOf params X.env = ([], []) := by rfl)
    (hbind : ∀ (q : Str) (cl : List (Str × Addr)) (pm cv ctv : Value), bindArgs (PySem.W.kla_fn "<lambda>" q params body scope cl pm cv ctv) ⟨[], []⟩ = pure [] := by intros; rfl) : PD X g W (.Call (.Name x p) [.Lambda params body scope lpos] [] pos) (dTold tb ret fe) := by
  obtain ⟨gA, pg, bg, sg, kV, doc, pm, cdv, ct, oc, an, od, osl, Ng, a, T⟩ := T
  obtain ⟨c, P, TB, hcode, hmT, hu⟩ := M
  obtain ⟨jj, p1, p2, p3, p4, p5, p6, p7, p8, e1⟩ := T.bd
  subst e1
  have hK := O.hK
  refine PE.imp (LamX.pe_lamcall (T := g.T) (t := fun E => tDE g (WB E) fe) (k := j) hg T.gm (by rw [hK]; exact T.kp) (by rw [hK]; exact T.lk) (by rw [hK]; exact T.cd) (by rw [hK]; exact T.bi) T.sc T.n0 T.vi
    (LamX.told_gives T.ge ET.gC T.de T.st) TB hcode hmT hu (O.room.mono hj) (LamX.lamS_by hl) hdef hbind (fun A outer s H E f c' hr => hb A outer s H E f c' ⟨hK, takes_of rfl rfl rfl rfl, passes_of rfl, rfl, O.nd, hr⟩) T.dx T.da T.dc) fun σ H Q ⟨μ, env, st, S, E, q⟩ => ⟨S.tabs, fun H1 eN T1 => ?_⟩
  obtain ⟨L, S1⟩ := ext_le S eN T1
  refine ⟨μ, env, st, S1, E.le L, ?_⟩
  have q := Post.le L q
  unfold dTold at q
  generalize fe env st = r at q ⊢
  cases r with
  | ok d st1 => exact q
  | bad => exact q
  | ex cc st1 =>
    have q : Post g W σ μ H1 (if tb.contains cc = true then .ok (.str ret) st1 else .bad) (VP g Q) := q
    split at q
    · rename_i hc
      intro μ2 H2 Lb S2
      have hm : cc ∈ tb := by
        rw [List.contains_iff_mem] at hc
        exact hc
      refine ⟨true, by rw [hK]; exact C (cc, true) (List.mem_map.mpr ⟨cc, hm, rfl⟩), fun _ => ?_, fun z => nomatch z⟩
      exact q μ2 H2 Lb S2 _ rfl
    · exact q.elim
end
end G

namespace G
open PySem L2 PyProof.Rows
/-! ### lambdas that capture nothing, as values -/
theorem lamO_at {P : Program} {w : World} {H : Hp} {h : Heap} {f c : Addr} {l : LamI} {pm ctv : Value} (e : h.get? f = some (PySem.W.kla_obj "<lambda>" l.qual l.params l.body l.scope [] pm c ctv)) : ObjOk P w H h f (LamO f c l pm ctv) := ⟨e, ⟨_, e⟩, fun h1 h2 q st => st _ q⟩
theorem lamO_ne {f c : Addr} {l : LamI} {pm ctv : Value} (ps : Array Value) : LamO f c l pm ctv ≠ .tbl ps := fun z => by
  unfold LamO at z
  cases z
section
variable {X : Cx} {pins : List (Addr × Obj)} {σ : L2.St} {H : Hp} {s : Shared} {g : GC} {W : WX} {k : Nat} {pos : Pos}
theorem tabs_new {T : List (Addr × Str)} {H : Hp} {p : Addr} {o : HO} (t : LamX.Tabs T H) (hp : H p = none) : LamX.Tabs T (upd H p o) := t.ext (ext_new hp)
/-- the lambda is made, and known from now on -/
theorem lam_new {c P : Addr} {l : LamI} {E : Value → Shared → Prop} {Q : Value → Shared → Prop} (I : Inv X pins σ H s) (TB : LamX.TabB X.base X.mg c P) (hcode : X.env.code = .ref c)
    (hm : (P, X.env.qual ++ "<lambda>") ∈ g.T) (hu : ∀ p ∈ g.T, p.1 = P → p.2 = X.env.qual ++ "<lambda>") (hT : LamX.Tabs g.T H) (hq : l.qual = X.env.qual ++ "<lambda>") (hdef : defaultsOf l.params X.env = ([], [])) (hcl : closureFor l.scope X.env = pure [])
    (h : ∀ (f c' : Addr) (pm ctv : Value) (H1 : Hp) (s' : Shared), LamX.ExtN H H1 → LamX.Tabs g.T H1 → H1 f = none → H1 c' = some (LamX.CodeO c' l.qual) → (∀ b, H1 b = none → H b = none) → Inv X pins σ (upd H1 f (LamO f c' l pm ctv)) s' → Q (.ref f) s') :
    wpAny (model X.prog X.w) X.A (eval (.Lambda l.params l.body l.scope pos) X.env) Q E s := by
  obtain ⟨ps, hP, ht, ha⟩ := hT _ hm
  have bP : s.heap.BuiltinsAt X.mg P := TB.bm.keeps I.bk
  have hP' : s.heap.get? P = some { cls := .none, data := .fields ps } := I.hok P _ hP
  have gl : s.heap.Ns mainGlobals X.mg := I.mod.glob.keeps I.bk
  refine PySem.W.kla_eval hdef ?_
  rw [← hq] at hm hu ha ⊢
  cases hc : codeAmong pos ps.toList with
  | some cv =>
    obtain ⟨c', ec, hco⟩ := ha pos cv hc
    subst ec
    refine PySem.W.kla_makeFunctionHit (mg := X.mg) (c := c) (P := P) (ps := ps) hcl I.ok.glob gl hcode (TB.code.keeps I.bk) hP' ht hc bP fun ctv h1 tk kp hsz => ?_
    have I0 : Inv X pins σ H { s with heap := h1, toks := tk } := I.kept kp
    have I1 := I0.laid (a := h1.objs.size) (o := LamO h1.objs.size c' l ((X.mg "__name__").getD .none) ctv) (t' := tk) (h' := h1.push (PySem.W.kla_obj "<lambda>" l.qual l.params l.body l.scope [] ((X.mg "__name__").getD .none) c' ctv)) (fun b o e => Heap.get?_push_of_some _ e) (Nat.le_refl _) (lamO_at (Heap.get?_push_size _ rfl))
    exact h h1.objs.size c' ((X.mg "__name__").getD .none) ctv H _ (LamX.ExtN.refl H) hT (I0.hok.fresh (Nat.le_refl _)) hco (fun _ n => n) I1
  | none =>
    refine PySem.W.kla_makeFunction (mg := X.mg) (c := c) (P := P) (ps := ps) hcl I.ok.glob gl hcode (TB.code.keeps I.bk) hP' ht hc TB.gP bP fun c' ctv h1 tk hx hge hlt hrec htb => ?_
    obtain ⟨c2, oc, vs, t, e2, hoc, hd, hv⟩ := hrec
    cases e2
    have nC : H c' = none := I.hok.fresh hge
    have nPc : P ≠ c' := ne_of_none hP nC
    have I0 : Inv X pins σ (upd (upd H P (.tbl (ps ++ #[rawInt pos.line, rawInt pos.col, .ref c']))) c' (LamX.CodeO c' l.qual)) { s with heap := h1, toks := tk } :=
      LamX.inv_table I hP (fun b o hb e => hx b o hb e) htb hge ⟨oc, vs, t, hoc, hd, hv⟩
    have hE : LamX.ExtN H (upd (upd H P (.tbl (ps ++ #[rawInt pos.line, rawInt pos.col, .ref c']))) c' (LamX.CodeO c' l.qual)) := fun b o e n => by
      have b1 : b ≠ c' := ne_of_none e nC
      have b2 : b ≠ P := fun z => n ps (Option.some.inj (e.symm.trans (by rw [z]; exact hP)))
      rw [L2.upd_ne b1, L2.upd_ne b2]
      exact e
    have eL : (ps ++ #[rawInt pos.line, rawInt pos.col, Value.ref c']).toList = ps.toList ++ [rawInt pos.line, rawInt pos.col, .ref c'] := by simp
    have T1 : LamX.Tabs g.T (upd (upd H P (.tbl (ps ++ #[rawInt pos.line, rawInt pos.col, .ref c']))) c' (LamX.CodeO c' l.qual)) := fun p hp => by
      by_cases hb : p.1 = P
      · rw [hu p hp hb, hb]
        refine ⟨_, (L2.upd_ne nPc).trans upd_same, ?_, fun p' cv hcv => ?_⟩
        · rw [eL]
          exact PySem.TriplesOk_snoc _ _ _ _ ht
        · rw [eL] at hcv
          rcases LamX.among_app _ ht hcv with z | z
          · obtain ⟨c0, z1, z2⟩ := ha p' cv z
            exact ⟨c0, z1, hE _ _ z2 LamX.codeO_ne⟩
          · exact ⟨c', z, upd_same⟩
      · obtain ⟨qs, a1, a2, a3⟩ := hT p hp
        have n1 : p.1 ≠ c' := ne_of_none a1 nC
        refine ⟨qs, by rw [L2.upd_ne n1, L2.upd_ne hb]; exact a1, a2, fun p' cv hcv => ?_⟩
        obtain ⟨c0, z1, z2⟩ := a3 p' cv hcv
        exact ⟨c0, z1, hE _ _ z2 LamX.codeO_ne⟩
    have I1 := I0.laid (a := h1.objs.size) (o := LamO h1.objs.size c' l ((X.mg "__name__").getD .none) ctv) (t' := tk) (h' := h1.push (PySem.W.kla_obj "<lambda>" l.qual l.params l.body l.scope [] ((X.mg "__name__").getD .none) c' ctv)) (fun b o e => Heap.get?_push_of_some _ e) (Nat.le_refl _) (lamO_at (Heap.get?_push_size _ rfl))
    refine h h1.objs.size c' ((X.mg "__name__").getD .none) ctv _ _ hE T1 (I0.hok.fresh (Nat.le_refl _)) upd_same (fun b n => ?_) I1
    cases q : H b with
    | none => rfl
    | some u =>
      by_cases b1 : b = c'
      · rw [b1, upd_same] at n; cases n
      · rw [L2.upd_ne b1] at n
        by_cases b2 : b = P
        · rw [b2, upd_same] at n; cases n
        · rw [L2.upd_ne b2, q] at n; cases n
def dLam (n : Nat) : DE := fun _ st => .ok (.lam n) st
theorem pd_lam (n : Nat) {l : LamI} (M : Lm X g) (hn : g.lam n = some l) (hq : l.qual = X.env.qual ++ "<lambda>" := by rfl) (hdef : defaultsOf l.params X.env = ([], []) := by rfl) (hcl : closureFor l.scope X.env = pure [] := by rfl) : PD X g W (.Lambda l.params l.body l.scope pos) (dLam n) := by
  obtain ⟨c, P, TB, hcode, hmT, hu⟩ := M
  refine ⟨fun pins s σ H Q I ⟨μ, env, st, S, E, q⟩ => ?_⟩
  refine lam_new I TB hcode hmT hu S.tabs hq hdef hcl fun f c' pm ctv H1 s' eN T1 nf hc nb I1 => ?_
  obtain ⟨L1, S1⟩ := ext_le S eN T1
  have L2' := le_new (o := LamO f c' l pm ctv) S1 nf
  refine ⟨.ref f, _, I1, rfl, ?_⟩
  refine q μ _ (L1.trans L2') (S1.frz nf) _ ⟨f, c', l, pm, ctv, rfl, hn, ⟨S1.out nf, .inl upd_same⟩, ?_, Rd.upd_ne (.inl hc) (ne_of_none hc nf)⟩
  -- the code object is nobody's
  have m1 : ∀ a ∈ μ.m, ∃ u, H1 a = some u ∧ Mut (some u) ∧ ∀ φ, u ≠ .ext φ := fun a ha => by
    obtain ⟨n, hn⟩ := List.mem_iff_getElem?.mp ha
    have hl : n < st.length := by
      rw [← S1.len]
      exact (List.getElem?_eq_some_iff.mp hn).1
    have r := S1.at_ n a _ hn (List.getElem?_eq_getElem hl)
    cases h10 : st[n] with
    | lst ds => rw [h10] at r; obtain ⟨vs, e, _⟩ := r; exact ⟨_, e, trivial, fun φ z => by cases z⟩
    | dic ks ds =>
      rw [h10] at r
      obtain ⟨vs, o, e, d, _⟩ := r
      rcases d with ⟨_, _, d⟩ | ⟨_, _, _, d⟩ <;> exact ⟨o, e, by rw [d]; trivial, fun φ z => by rw [d] at z; cases z⟩
    | ins C fs => rw [h10] at r; obtain ⟨dx, gs, e, _⟩ := r; exact ⟨_, e, trivial, fun φ z => by cases z⟩
  refine ⟨fun z => ?_, fun z => ?_⟩
  · obtain ⟨u, e, _, ne⟩ := m1 _ z
    rw [hc] at e
    cases e
    exact ne _ rfl
  · obtain ⟨_, vs, e⟩ := S1.hid _ z
    rw [hc] at e
    unfold LamX.CodeO at e
    cases vs <;> cases e

/-! ### such a lambda is called by a local name -/
abbrev lamEnv0 (l : LamI) (L f c : Addr) : PySem.Env := PySem.W.envX l.qual l.scope L f (.ref c) []
/-- the context of its body -/
def lamCx0 (P : Program) (w : World) (K : PySem.W.Frag) (mg : Str → Option Value) (base : Heap) (l : LamI) (A : Around) (outer : List PySem.Env) (s : Shared) (H : Hp) (E : XK) (f c : Addr) : Cx where
  prog := P
  w := w
  K := K
  mg := mg
  base := base
  A := A.deeper (lamEnv0 l s.heap.objs.size f c)
  N := []
  s_0 := s
  H_0 := H
  env := lamEnv0 l s.heap.objs.size f c
  outer := outer
  stack := lamEnv0 l s.heap.objs.size f c :: outer
  ex := []
  fn := fun _ => false
  calm := true
  pn := []
  xe := fun e s' => wpAny (model P w) (A.deeper (lamEnv0 l s.heap.objs.size f c)) (leaving (lamEnv0 l s.heap.objs.size f c) e) (fun _ s'' => L2.CX P w outer H s E e s'') (fun e' s'' => L2.CX P w outer H s E e' s'') s'
structure LamOk (l : LamI) : Prop where
  kind : l.scope.kind = .function
  co : l.scope.isCoroutine = false
  gen : l.scope.isGenerator = false
  own : ∀ y ∈ l.scope.names, y.2 ≠ .local ∧ y.2 ≠ .cell ∧ y.2 ≠ .free
  bind : ∀ (q : Str) (cl : List (Str × Addr)) (pm cv ctv : Value), bindArgs (PySem.W.kla_fn "<lambda>" q l.params l.body l.scope cl pm cv ctv) ⟨[], []⟩ = pure []
/-- what the lambdas of the text do -/
def LamsOk (P : Program) (w : World) (mg : Str → Option Value) (base : Heap) (g : GC) (j : Nat) (tab : Nat → Store → R D) : Prop :=
  ∀ n l, g.lam n = some l → LamOk l ∧ ∀ (A : Around) (outer : List PySem.Env) (s : Shared) (H : Hp) (E : XK) (f c : Addr), Ok (lamCx0 P w g.K mg base l A outer s H E f c) g (WB E) j → PD (lamCx0 P w g.K mg base l A outer s H E f c) g (WB E) l.body (fun _ st => tab n st)
theorem lam_start0 {l : LamI} {A : Around} {outer : List PySem.Env} {P : Program} {w : World} {K : PySem.W.Frag} {mg : Str → Option Value} {base : Heap} {E : XK} {f c : Addr} {s1 : Shared} {H : Hp} {h₁ : Heap} {tk : Nat} (L : LamOk l) (e0 : Env0 P w K mg base A outer s1 H) (hd : A.handled = none)
    (hns : h₁.Ns s1.heap.objs.size fun y => ([] : List (Str × Value)).reverse.lookup y) (kp : ∀ b o, s1.heap.get? b = some o → h₁.get? b = some o) :
    Inv (lamCx0 P w K mg base l A outer s1 H E f c) [] [] H { s1 with heap := h₁, toks := tk } := by
  have noA : ∀ b : Addr, b ∉ (lamCx0 P w K mg base l A outer s1 H E f c).ex := fun b z => absurd (show b ∈ ([] : List Addr) from z) (by simp)
  have noC : ∀ {x : Str} {a : Addr}, (lamCx0 P w K mg base l A outer s1 H E f c).env.cells.lookup x = some a → False := fun {x a} z => by
    have z : ([] : List (Str × Addr)).lookup x = some a := z
    cases z
  have noK : ∀ {x : Str} {q : NameKind}, l.scope.names.lookup x = some q → q ≠ .local ∧ q ≠ .cell ∧ q ≠ .free := fun h => L.own _ (PySem.mem_of_lookup h)
  refine
    { ok := { mod := e0.mod, kind := L.kind, glob := rfl, blt := rfl, above := Nat.le_refl _, inj := fun x y a z => (noC z).elim, has := fun x hx => ?_, cab := fun x a _ z => (noC z).elim, hd := fun _ => hd, frames := Around.frames_deeper e0.frames, stk := .inr ⟨rfl, rfl⟩, exf := fun b z => absurd z (noA b),
              bs := e0.bs, bsz := e0.bsz, noex := fun b _ _ => noA b, exfs := fun b z => absurd z (noA b), funs := e0.funs, frf := e0.frf }
      os := rfl, bare := e0.bare, base := Un.kept kp, loc := ⟨_, hns, fun i y v h1 _ _ => ?_⟩, cell := fun x a z => (noC z).elim, free := e0.hok.fresh (Nat.le_refl _), freeC := fun x a z => (noC z).elim, pin := fun p hp => absurd (show p ∈ ([] : List (Addr × Obj)) ++ [] from hp) (by simp), hok := e0.hok.kept kp, len := rfl }
  · have hx : l.scope.names.lookup x = some .cell ∨ l.scope.names.lookup x = some .free := hx
    rcases hx with z | z
    · exact absurd rfl (noK z).2.1
    · exact absurd rfl (noK z).2.2
  · have h1 : ([] : List Str)[i]? = some y := h1
    simp at h1
def dCallLam (tab : Nat → Store → R D) (i : Nat) : DE := fun env st => match env[i]? with
  | some (some (.lam n)) => tab n st
  | _ => .bad
theorem pd_callLam (i : Nat) {a : Str} {p1 p2 : Pos} {tab : Nat → Store → R D} {j : Nat} (O : Ok X g W k) (F : LamsOk X.prog X.w X.mg X.base g j tab) (hj : j + 1 ≤ k) (hN : X.N[i]? = some a := by rfl) (hv : Vis X.env.scope a := by first | exact Or.inl rfl | exact Or.inr (Or.inl rfl) | exact Or.inr (Or.inr rfl))
    (hd : (a == ("__debug__" : Str)) = false := by decide) (hcd : (a == ("__classdict__" : Str)) = false := by decide) : PD X g W (.Call (.Name a p1) [] [] p2) (dCallLam tab i) := by
  refine ⟨fun pins s σ H Q I ⟨μ, env, st, S, E, q⟩ => ?_⟩
  unfold dCallLam at q
  split at q
  · rename_i n he
    obtain ⟨v, hs, f, c, l, pm, ctv, ev, hl, ⟨_, hf⟩, _, hc⟩ := E.at_ i _ he
    subst ev
    refine wpAny_Call_Name_kw (thn ((pe_var (pos := p1) (i := i) hN hv hd hcd).run pins s σ H (fun v H1 => v = .ref f ∧ H1 = H) I ⟨.ref f, hs, rfl, rfl⟩) fun u s1 h1 => ?_)
    obtain ⟨v, H1, I1, r1, ev, eH⟩ := h1
    subst ev eH
    obtain rfl : u = Value.ref f := r1
    have of1 : s1.heap.get? f = some (PySem.W.kla_obj "<lambda>" l.qual l.params l.body l.scope [] pm c ctv) := (hf.ok I1.hok).1
    obtain ⟨⟨oc, vs, t, hoc, hdc, hvc⟩, _, _⟩ := hc.ok I1.hok
    obtain ⟨lo, body⟩ := F n l hl
    refine PySem.W.callWith_F0 ⟨_, _, _, _, of1⟩ ?_
    have hr := O.room.mono hj
    have rc : codeAny (model X.prog X.w) X.A (.call (.ref f) ⟨[], []⟩) (CR (L2.CX X.prog X.w) X.stack X.prog X.w H1 s1 Q (WE W σ)) s1 := by
      refine PySem.W.kla_callFunE hr.depth of1 rfl lo.co lo.gen rfl ⟨c, oc, vs, t, rfl, hoc, hdc, hvc⟩ ?_
      rw [lo.bind]
      refine wpAny_pure (wpAny_newFunctionEnv (fun y hy => (lo.own y hy).2.1) (fun y hy => absurd hy (by simp)) (fun h₁ hns hsb => ⟨I1.nolimit.fresh _ hsb, ?_⟩) lo.kind)
      show codeAny _ _ (.expr l.body (lamEnv0 l s1.heap.objs.size f c)) _ _
      have kp : ∀ b o, s1.heap.get? b = some o → h₁.get? b = some o := fun b o e => hsb.extBut b o (Nat.ne_of_lt (Heap.lt_size e)) (Heap.get?_push_of_some _ e)
      have J : Inv (lamCx0 X.prog X.w X.K X.mg X.base l X.A X.stack s1 H1 (WE W σ) f c) [] [] H1 { s1 with heap := h₁, toks := s1.toks + ([] : List (Str × Value)).length } := lam_start0 lo I1.env0 hr.hd hns kp
      have hK := O.hK
      have O2 : Ok (lamCx0 X.prog X.w X.K X.mg X.base l X.A X.stack s1 H1 (WE W σ) f c) g (WB (WE W σ)) j := ⟨hK, takes_of rfl rfl rfl rfl, passes_of rfl, rfl, List.nodup_nil, hr.deeper _⟩
      have pd : PD (lamCx0 X.prog X.w X.K X.mg X.base l X.A X.stack s1 H1 (WE W σ) f c) g (WB (WE W σ)) l.body (fun _ st => tab n st) := by
        revert O2
        rw [hK]
        exact fun O2 => body X.A X.stack s1 H1 (WE W σ) f c O2
      refine PySem.W.kla_codeExpr (wpAny_mono (pd.run [] _ [] H1 Q J ⟨μ, [], st, S, ⟨rfl, fun i d h => by simp at h⟩, ?_⟩) (fun v s' hq => ?_) fun e s' hq => hq)
      · show Post g (WB (WE W σ)) [] μ H1 (tab n st) (VP g Q)
        generalize tab n st = rr at q ⊢
        cases rr with
        | ok d st' => exact q
        | ex c st' => exact q
        | bad => exact q
      · obtain ⟨w', H', J', rv, qq⟩ := hq
        exact ⟨w', H', J'.os, J'.bare, J'.base, J'.hok, rv, qq⟩
    refine wpAny_call (codeAny_mono rc fun r s' hq => ?_)
    cases r with
    | error e => exact passAt O.tk σ pins H1 s1 e s' I1 hq
    | ok fl =>
      cases fl with
      | ret u => exact I1.after hq
      | next => exact False.elim hq
      | brk => exact False.elim hq
      | cont => exact False.elim hq
  · exact q.elim
end
end G

namespace G
open PySem L2
/-! ### the defs of a text -/
/-- x is the def st of the parameters ps -/
def DefD (g : GC) (mg : Str → Option Value) (x : Str) (st : Stmt) (ps : List Str) : Prop := ∃ (fa : Addr) (fd : FuncData), Fun g.K x x st fa fd ∧ mg x = some (.ref fa) ∧ Binds g.K fd ps []
/-- .. and its code object and table are told -/
def DefL (g : GC) (mg : Str → Option Value) (x : Str) (st : Stmt) (ps : List Str) : Prop := ∃ (fa : Addr) (oc kV doc pm ct : Value) (od an : Option Addr) (osl : Array (Option Value)),
  g.K.lookup fa = some ⟨oc, od, .func (PySem.W.fnOf x x (defArgs st) (defBody st) (defScope st) .none kV doc pm an (.ref (g.cp x).1) ct), osl⟩ ∧ PySem.W.codeIn g.K (.ref (g.cp x).1) x = true ∧ PySem.W.keepIn g.K (.ref fa) = true ∧ mg x = some (.ref fa) ∧
  Binds g.K (PySem.W.fnOf x x (defArgs st) (defBody st) (defScope st) .none kV doc pm an (.ref (g.cp x).1) ct) ps []
section
variable {P : Program} {w : World} {mg : Str → Option Value} {base : Heap} {g : GC}
theorem fn_D {x : Str} {st : Stmt} {N ps : List Str} {j n : Nat} {fb : DS} (F : DefD g mg x st ps) (S : FnScope N ps (defScope st)) (hn : ps.length = n)
    (body : ∀ (fa : Addr) (cdv : Value) (A : Around) (outer : List PySem.Env) (s : Shared) (H : Hp) (E : XK), Ok (bodyCx P w g.K mg base N x (defScope st) fa cdv A outer s H E) g (WB E) j → PSsD (bodyCx P w g.K mg base N x (defScope st) fa cdv A outer s H E) g (WB E) (defBody st) fb) :
    FnD P w mg base g (j + 1) x n (runB N.length fb) := by
  obtain ⟨fa, fd, F, hm, hb⟩ := F
  exact fn_d F hm S hb hn (body fa)
theorem fn_L {x : Str} {st : Stmt} {N ps : List Str} {j n : Nat} {fb : DS} (F : DefL g mg x st ps) (B : LamX.TabB base mg (g.cp x).1 (g.cp x).2) (mT : ((g.cp x).2, (x ++ ".<locals>.") ++ "<lambda>") ∈ g.T) (hu : ∀ p ∈ g.T, p.1 = (g.cp x).2 → p.2 = (x ++ ".<locals>.") ++ "<lambda>") (S : FnScope N ps (defScope st)) (hn : ps.length = n)
    (body : ∀ (fa : Addr) (cdv : Value) (A : Around) (outer : List PySem.Env) (s : Shared) (H : Hp) (E : XK), Ok (bodyCx P w g.K mg base N x (defScope st) fa cdv A outer s H E) g (WB E) j → Lm (bodyCx P w g.K mg base N x (defScope st) fa cdv A outer s H E) g → PSsD (bodyCx P w g.K mg base N x (defScope st) fa cdv A outer s H E) g (WB E) (defBody st) fb) :
    FnD P w mg base g (j + 1) x n (runB N.length fb) := by
  obtain ⟨fa, oc, kV, doc, pm, ct, od, an, osl, lk, hcd, kp, hm, hb⟩ := F
  refine ⟨fa, _, ps, hm, kp, hb, fn_of lk hcd S (fun vs H Q E h => h.1.trans hn.symm) fun A outer s H vs Q E hr h => ⟨_, body fa (.ref (g.cp x).1) A outer s H E ⟨rfl, takes_of rfl rfl rfl rfl, passes_of rfl, rfl, S.nd, hr⟩ ⟨_, _, B, rfl, mT, hu⟩, ?_⟩⟩
  obtain ⟨hl, μ, st0, ds, S0, r, q⟩ := h
  refine ⟨μ, _, st0, S0, reps_env r N.length, ?_⟩
  unfold runB at q
  generalize fb (ds.map some ++ List.replicate (N.length - ds.length) none) st0 = rr at q ⊢
  cases rr with
  | nx env st1 => exact fun μ' H' σ' L S' _ => q μ' H' L S' _ rfl
  | rt d st1 => exact fun μ' H' v L S' rv => q μ' H' L S' v rv
  | bk env st1 => exact q.elim
  | ct env st1 => exact q.elim
  | ex c env st1 => exact fun μ' H' σ' L S' _ => q μ' H' L S'
  | bad => exact q.elim
/-- nothing is promised -/
theorem fn_bad {x : Str} {st : Stmt} {ps : List Str} {j n : Nat} (F : DefD g mg x st ps) (hn : ps.length = n) : FnD P w mg base g j x n (fun _ _ => .bad) := by
  obtain ⟨fa, fd, F, hm, hb⟩ := F
  exact ⟨fa, fd, ps, hm, F.kp, hb, fun vs H Q E h => h.1.trans hn.symm, fun A outer s H args us vs Q E _ _ _ _ h => by
    obtain ⟨_, _, _, _, _, _, q⟩ := h
    exact q.elim⟩
/-- a def that calls itself, n deep -/
theorem fn_rec {x : Str} {st : Stmt} {ps : List Str} {j n : Nat} {N : List Str} {fb : (List D → Store → R D) → DS} (F : DefD g mg x st ps) (hn : ps.length = n) (f : Nat → List D → Store → R D) (f0 : f 0 = fun _ _ => .bad) (fs : ∀ m, f (m + 1) = runB N.length (fb (f m)))
    (step : ∀ m, FnD P w mg base g (j + m) x n (f m) → FnD P w mg base g (j + m + 1) x n (runB N.length (fb (f m)))) : ∀ m, FnD P w mg base g (j + m) x n (f m)
  | 0 => by rw [f0]; exact fn_bad F hn
  | m + 1 => by rw [fs]; exact step m (fn_rec F hn f f0 fs step m)
end
section
variable {X : Cx} {g : GC} {W : WX} {k : Nat} {pos : Pos}
theorem pd_call0 {x : Str} {p : Pos} {j : Nat} {f : List D → Store → R D} (O : Ok X g W k) (F : FnD X.prog X.w X.mg X.base g j x 0 f) (hj : j ≤ k) (hg : Gl X x := by rfl) (hdb : (x == ("__debug__" : Str)) = false := by decide) : PD X g W (.Call (.Name x p) [] [] pos) (dCall f dNil) := by
  obtain ⟨fA, fd, ps, h1, h2, h3, h4⟩ := F
  rw [← O.hK] at h2 h3 h4
  refine ⟨fun pins s σ H Q I ⟨μ, env, st, S, E, h⟩ => ?_⟩
  refine wpAny_Call_Name_kw (ld_glob I hg h1 ?_ hdb)
  refine PySem.W.callWith_K0 I.kIn h2 (run_fnS (us := []) (vs := []) (E := fun σ => WE W σ) h4 (O.room.mono hj) h3 (passAt O.tk σ) I .nil ⟨rfl, μ, st, [], S, rfl, ?_⟩)
  have h : Post g W σ μ H (f [] st) (VP g Q) := h
  generalize f [] st = r at h ⊢
  cases r with
  | ok d st2 => exact h
  | ex c st2 => exact h
  | bad => exact h
end
/-! ### the lambdas of the text -/
def listElt (s : Stmt) (i : Nat) : Expr := match s with
  | .Assign _ (.List es _) _ => es.getD i (.Constant .none 0 ⟨0, 0, 0, 0⟩)
  | _ => .Constant .none 0 ⟨0, 0, 0, 0⟩
def lamI (q : Str) (e : Expr) : LamI := match e with
  | .Lambda p b s _ => ⟨q, p, b, s⟩
  | e => ⟨q, { posonlyargs := [], args := [], vararg := none, kwonlyargs := [], kw_defaults := [], kwarg := none, defaults := [] }, e, { kind := .function, names := [], isGenerator := false, isCoroutine := false }⟩
def lamOkB (l : LamI) : Bool := (match l.scope.kind with | .function => true | _ => false) && !l.scope.isCoroutine && !l.scope.isGenerator && l.scope.names.all fun y => match y.2 with
  | .local => false
  | .cell => false
  | .free => false
  | _ => true
theorem lamOk_by {l : LamI} (h : lamOkB l = true) (hb : ∀ (q : Str) (cl : List (Str × Addr)) (pm cv ctv : Value), bindArgs (PySem.W.kla_fn "<lambda>" q l.params l.body l.scope cl pm cv ctv) ⟨[], []⟩ = pure []) : LamOk l := by
  unfold lamOkB at h
  simp only [Bool.and_eq_true, Bool.not_eq_true', List.all_eq_true] at h
  obtain ⟨⟨⟨h1, h2⟩, h3⟩, h4⟩ := h
  refine ⟨?_, h2, h3, fun y hy => ?_, hb⟩
  · split at h1
    · assumption
    · cases h1
  · have q := h4 y hy
    refine ⟨fun z => ?_, fun z => ?_, fun z => ?_⟩ <;> (rw [z] at q; cases q)
end G

namespace G
open PySem L2
/-! ### the end -/
section
variable {P : Program} {w : World} {mg : Str → Option Value} {base h : Heap} {g : GC} {K : PySem.W.Frag}
theorem ok_L {x : Str} {st : Stmt} {N ps : List Str} {j n : Nat} {fb : DS} {fa : Addr} {oc kV doc pm ct : Value} {od an : Option Addr} {osl : Array (Option Value)}
    (lk : g.K.lookup fa = some ⟨oc, od, .func (PySem.W.fnOf x x (defArgs st) (defBody st) (defScope st) .none kV doc pm an (.ref (g.cp x).1) ct), osl⟩) (hcd : PySem.W.codeIn g.K (.ref (g.cp x).1) x = true)
    (B : LamX.TabB base mg (g.cp x).1 (g.cp x).2) (mT : ((g.cp x).2, (x ++ ".<locals>.") ++ "<lambda>") ∈ g.T) (hu : ∀ p ∈ g.T, p.1 = (g.cp x).2 → p.2 = (x ++ ".<locals>.") ++ "<lambda>") (S : FnScope N ps (defScope st)) (hn : ps.length = n)
    (body : ∀ (A : Around) (outer : List PySem.Env) (s : Shared) (H : Hp) (E : XK), Ok (bodyCx P w g.K mg base N x (defScope st) fa (.ref (g.cp x).1) A outer s H E) g (WB E) j → Lm (bodyCx P w g.K mg base N x (defScope st) fa (.ref (g.cp x).1) A outer s H E) g → PSsD (bodyCx P w g.K mg base N x (defScope st) fa (.ref (g.cp x).1) A outer s H E) g (WB E) (defBody st) fb) :
    FnOk P w g.K mg base (L2.CX P w) (j + 1) fa (PySem.W.fnOf x x (defArgs st) (defBody st) (defScope st) .none kV doc pm an (.ref (g.cp x).1) ct) ps (spD g n (runB N.length fb)) := by
  refine fn_of lk hcd S (fun vs H Q E h => h.1.trans hn.symm) fun A outer s H vs Q E hr h => ⟨_, body A outer s H E ⟨rfl, takes_of rfl rfl rfl rfl, passes_of rfl, rfl, S.nd, hr⟩ ⟨_, _, B, rfl, mT, hu⟩, ?_⟩
  obtain ⟨hl, μ, st0, ds, S0, r, q⟩ := h
  refine ⟨μ, _, st0, S0, reps_env r N.length, ?_⟩
  unfold runB at q
  generalize fb (ds.map some ++ List.replicate (N.length - ds.length) none) st0 = rr at q ⊢
  cases rr with
  | nx env st1 => exact fun μ' H' σ' L S' _ => q μ' H' L S' _ rfl
  | rt d st1 => exact fun μ' H' v L S' rv => q μ' H' L S' v rv
  | bk env st1 => exact q.elim
  | ct env st1 => exact q.elim
  | ex c env st1 => exact fun μ' H' σ' L S' _ => q μ' H' L S'
  | bad => exact q.elim
theorem ok_D {x : Str} {st : Stmt} {N ps : List Str} {j n : Nat} {fb : DS} {fa : Addr} {oc kV doc pm cdv ct : Value} {od an : Option Addr} {osl : Array (Option Value)}
    (lk : g.K.lookup fa = some ⟨oc, od, .func (PySem.W.fnOf x x (defArgs st) (defBody st) (defScope st) .none kV doc pm an cdv ct), osl⟩) (hcd : PySem.W.codeIn g.K cdv x = true)
    (S : FnScope N ps (defScope st)) (hn : ps.length = n)
    (body : ∀ (A : Around) (outer : List PySem.Env) (s : Shared) (H : Hp) (E : XK), Ok (bodyCx P w g.K mg base N x (defScope st) fa cdv A outer s H E) g (WB E) j → PSsD (bodyCx P w g.K mg base N x (defScope st) fa cdv A outer s H E) g (WB E) (defBody st) fb) :
    FnOk P w g.K mg base (L2.CX P w) (j + 1) fa (PySem.W.fnOf x x (defArgs st) (defBody st) (defScope st) .none kV doc pm an cdv ct) ps (spD g n (runB N.length fb)) := by
  refine fn_of lk hcd S (fun vs H Q E h => h.1.trans hn.symm) fun A outer s H vs Q E hr h => ⟨_, body A outer s H E ⟨rfl, takes_of rfl rfl rfl rfl, passes_of rfl, rfl, S.nd, hr⟩, ?_⟩
  obtain ⟨hl, μ, st0, ds, S0, r, q⟩ := h
  refine ⟨μ, _, st0, S0, reps_env r N.length, ?_⟩
  unfold runB at q
  generalize fb (ds.map some ++ List.replicate (N.length - ds.length) none) st0 = rr at q ⊢
  cases rr with
  | nx env st1 => exact fun μ' H' σ' L S' _ => q μ' H' L S' _ rfl
  | rt d st1 => exact fun μ' H' v L S' rv => q μ' H' L S' v rv
  | bk env st1 => exact q.elim
  | ct env st1 => exact q.elim
  | ex c env st1 => exact fun μ' H' σ' L S' _ => q μ' H' L S'
  | bad => exact q.elim
theorem defD_mk {x : Str} {st : Stmt} {ps : List Str} {fa : Addr} {oc kV doc pm cdv ct : Value} {od an : Option Addr} {osl : Array (Option Value)} (X : K.In h) (G₀ : h.Ns mainGlobals mg) (hK : g.K = K)
    (a : PySem.W.nsIn K mainGlobals x = some (some (.ref fa))) (l : K.lookup fa = some ⟨oc, od, .func (PySem.W.fnOf x x (defArgs st) (defBody st) (defScope st) .none kV doc pm an cdv ct), osl⟩)
    (c : PySem.W.codeIn K cdv x = true) (k : PySem.W.keepIn K (.ref fa) = true) (b : ∀ us : List Value, us.length = ps.length → bindArgs (PySem.W.fnOf x x (defArgs st) (defBody st) (defScope st) .none kV doc pm an cdv ct) ⟨us, []⟩ = pure (ps.zip us)) : DefD g mg x st ps := by
  subst hK
  exact ⟨fa, _, fun_mk l c k, PySem.W.mg_of X G₀ a, .all b⟩
theorem defL_mk {x : Str} {st : Stmt} {ps : List Str} {fa cA : Addr} {oc kV doc pm ct : Value} {od an : Option Addr} {osl : Array (Option Value)} (X : K.In h) (G₀ : h.Ns mainGlobals mg) (hK : g.K = K) (hc : (g.cp x).1 = cA)
    (a : PySem.W.nsIn K mainGlobals x = some (some (.ref fa))) (l : K.lookup fa = some ⟨oc, od, .func (PySem.W.fnOf x x (defArgs st) (defBody st) (defScope st) .none kV doc pm an (.ref cA) ct), osl⟩)
    (c : PySem.W.codeIn K (.ref cA) x = true) (k : PySem.W.keepIn K (.ref fa) = true) (b : ∀ us : List Value, us.length = ps.length → bindArgs (PySem.W.fnOf x x (defArgs st) (defBody st) (defScope st) .none kV doc pm an (.ref cA) ct) ⟨us, []⟩ = pure (ps.zip us)) : DefL g mg x st ps := by
  subst hK
  subst hc
  exact ⟨fa, oc, kV, doc, pm, ct, od, an, osl, l, c, k, PySem.W.mg_of X G₀ a, .all b⟩
theorem told_mk {x e ret : Str} {st : Stmt} {a : Str} {Ng : List Str} {fa : Addr} {oc kV doc pm cdv ct : Value} {od an : Option Addr} {osl : Array (Option Value)} (X : K.In h) (G₀ : h.Ns mainGlobals mg) (hK : g.K = K)
    (ha : PySem.W.nsIn K mainGlobals x = some (some (.ref fa))) (l : K.lookup fa = some ⟨oc, od, .func (PySem.W.fnOf x x (defArgs st) (defBody st) (defScope st) .none kV doc pm an cdv ct), osl⟩)
    (c : PySem.W.codeIn K cdv x = true) (k : PySem.W.keepIn K (.ref fa) = true) (b : ∀ us : List Value, us.length = 1 → bindArgs (PySem.W.fnOf x x (defArgs st) (defBody st) (defScope st) .none kV doc pm an cdv ct) ⟨us, []⟩ = pure ([a].zip us))
    (sc : FnScope Ng [a] (defScope st)) (n0 : Ng[0]? = some a) (vi : Vis (defScope st) a) (hst : ∀ f : Addr, (L2.start Ng [V.ref f])[0]? = some (some (V.ref f)))
    (bd : ∃ (jj : Nat) (p1 p2 p3 p4 p5 p6 p7 p8 : Pos), defBody st = [.Try [.Return (some (.Call (.Name a p1) [] [] p2)) p3] [.ExceptHandler (some (.Name e p4)) none [.Return (some (.Constant (.str ret) jj p5)) p6] p7] [] [] p8])
    (ge : (defScope st).names.lookup e = some .globalImplicit) (de : (e == ("__debug__" : Str)) = false) (da : (a == ("__debug__" : Str)) = false) (dc : (a == ("__classdict__" : Str)) = false) (dx : (x == ("__debug__" : Str)) = false) : ToldD g mg x e ret := by
  subst hK
  exact ⟨fa, _, _, _, kV, doc, pm, cdv, ct, oc, an, od, osl, Ng, a, PySem.W.mg_of X G₀ ha, k, l, c, .all b, sc, n0, vi, hst, bd, ge, de, da, dc, dx⟩
theorem none_mk {x : Str} (X : K.In h) (G₀ : h.Ns mainGlobals mg) (a : PySem.W.nsIn K mainGlobals x = some none) : mg x = none := PySem.W.mg_none_of X G₀ a
theorem exD_mk {x : Str} {C : Addr} (X : K.In h) (G₀ : h.Ns mainGlobals mg) (hK : g.K = K) (hC : g.ga x = C) (a : PySem.W.nsIn K mainGlobals x = some (some (.ref C)))
    (xC : PySem.W.excIn K C [.type "ValueError", .type "Exception", .type "BaseException", .type "object"] "ValueError.__new__" = true)
    (kC : PySem.W.keepIn K (.ref C) = true) (bC : PySem.W.subIn K (.ref C) (.type "BaseException") = some true) (tC : PySem.W.typeIn K (.ref C) = some (.type "type")) : ExD g mg x := by
  subst hK
  subst hC
  exact ⟨PySem.W.mg_of X G₀ a, xC, kC, bC, tC⟩
theorem tabB_cast {x : Str} {c P : Addr} (e : g.cp x = (c, P)) (t : LamX.TabB base mg c P) : LamX.TabB base mg (g.cp x).1 (g.cp x).2 := by rw [e]; exact t
/-! constants -/
mutual
def chkD (K : PySem.W.Frag) : D → Value → Bool
  | .non, .none => true
  | .bl b, .bool b' => b == b'
  | .int i, .int j _ => i == j
  | .str x, .str y _ => x == y
  | .tup ds, .ref a => match K.lookup a with
    | some ⟨.type "tuple", _, .seq its _, _⟩ => Nat.ble its.size sizeLine && chkDs K ds its.toList
    | _ => false
  | _, _ => false
def chkDs (K : PySem.W.Frag) : List D → List Value → Bool
  | [], [] => true
  | d :: ds, u :: us => chkD K d u && chkDs K ds us
  | _, _ => false
end
mutual
theorem chkD_ok (hK : g.K = K) : ∀ {d : D} {u : Value}, chkD K d u = true → ∃ v, RelV v u ∧ ∀ μ H, Rep g μ H d v
  | .non, .none, _ => ⟨.non, rfl, fun _ _ => by unfold Rep; rfl⟩
  | .bl b, .bool b', e => ⟨.bl b, by unfold chkD at e; rw [beq_iff_eq.mp e] <;> rfl, fun _ _ => by unfold Rep; rfl⟩
  | .int i, .int j t, e => ⟨.int i, by unfold chkD at e; exact ⟨t, by rw [beq_iff_eq.mp e]⟩, fun _ _ => by unfold Rep; rfl⟩
  | .str x, .str y t, e => ⟨.str x, by unfold chkD at e; exact ⟨t, by rw [beq_iff_eq.mp e]⟩, fun _ _ => by unfold Rep; rfl⟩
  | .tup ds, .ref a, e => by
    unfold chkD at e
    split at e
    · rename_i dd its n sl lk
      simp only [Bool.and_eq_true, Nat.ble_eq] at e
      obtain ⟨vs, r, q⟩ := chkDs_ok hK e.2
      exact ⟨.ref a, rfl, fun μ H => by unfold Rep; exact ⟨a, vs, rfl, .inr ⟨_, its, n, by rw [hK]; exact lk, rfl, rfl, e.1, r⟩, q μ H⟩⟩
    · cases e
theorem chkDs_ok (hK : g.K = K) : ∀ {ds : List D} {us : List Value}, chkDs K ds us = true → ∃ vs, Vals vs us ∧ ∀ μ H, Reps g μ H ds vs
  | [], [], _ => ⟨[], .nil, fun _ _ => by unfold Reps; rfl⟩
  | d :: ds, u :: us, e => by
    unfold chkDs at e
    simp only [Bool.and_eq_true] at e
    obtain ⟨v, r, q⟩ := chkD_ok hK e.1
    obtain ⟨vs, rs, qs⟩ := chkDs_ok hK e.2
    exact ⟨v :: vs, .cons r rs, fun μ H => by unfold Reps; exact ⟨v, vs, rfl, q μ H, qs μ H⟩⟩
end
theorem glob_mk {x : Str} {d : D} {u : Value} (X : K.In h) (G₀ : h.Ns mainGlobals mg) (hK : g.K = K) (a : PySem.W.nsIn K mainGlobals x = some (some u)) (e : chkD K d u = true) : Glob g mg x d := by
  obtain ⟨v, r, q⟩ := chkD_ok hK e
  exact ⟨u, v, PySem.W.mg_of X G₀ a, r, q⟩
theorem exm_one {S : Addr} (h1 : PySem.W.subIn K (.ref S) (.type "BaseException") = some true) (h2 : PySem.W.isClsIn K S = true) (h3 : PySem.W.typeIn K (.ref S) = some (.type "type")) {C : Addr} {b : Bool} (h4 : PySem.W.subIn K (.ref C) (.ref S) = some b) :
    PySem.W.exmOne K (.ref C) (.ref S) = some b := by
  unfold PySem.W.isClsIn at h2
  unfold PySem.W.exmOne PySem.W.kitCls
  simp [h1, h2, h3, h4]
end
/-- the law's promise at the head -/
theorem law_at {l : PySem.W.OpenLaw} {w : World} {K : PySem.W.Frag} {mg : Str → Option Value} {h : Heap} {k n : Nat} {x : Str} {fa : Addr} {g : GC} {fd : FuncData} {f : List D → Store → R D} (cs : List (Addr × Addr)) (hK : g.K = K)
    (hT : ∀ p ∈ cs, h.get? p.2 = some { cls := .none, data := .fields #[] }) (nT : ∀ p ∈ cs, K.lookup p.2 = none) (C : ∀ p ∈ cs, PySem.W.CodeHd h p.1 p.2) (hb : ∀ (s : Shared) (u : Value), BindsTo s fd ⟨[u], []⟩ [(x, u)])
    (hg : ∀ p ∈ g.T, ∃ q ∈ cs, q.2 = p.1) (law : ∀ ns : List Int, ns.length ≤ n → ∃ st, f [.scr ns] [] = .ok (.bl true) st)
    (hF : ∀ base : Heap, K.In base → base.Ns mainGlobals mg → (∀ p ∈ cs, LamX.TabB base mg p.1 p.2) → FnOk l.prog w K mg base (L2.CX l.prog w) k fa fd [x] (spD g 1 f)) : LamX.LawAtS l w K (L2.CX l.prog w) k n x mg fa h := by
  subst hK
  refine ⟨fd, cs, spD g 1 f, hT, nT, C, hb, fun H a ns hl _ ht hs => ?_, hF⟩
  obtain ⟨st, e⟩ := law ns hl
  refine ⟨rfl, ⟨[], []⟩, [], [.scr ns], ⟨rfl, List.nodup_nil, fun a ha => (nomatch ha), fun n a o e => by simp at e, fun p hp => ?_⟩, ?_, ?_⟩
  · obtain ⟨q, hq, e⟩ := hg p hp
    exact LamX.TabS.nil (by rw [← e]; exact ht q hq)
  · refine ⟨.ref a, [], rfl, ?_, rfl⟩
    unfold Rep
    refine ⟨a, rfl, ?_⟩
    rcases hs with hs | hs
    · exact .inl ⟨⟨List.not_mem_nil, List.not_mem_nil⟩, hs⟩
    · refine .inr ?_
      exact hs
  · rw [e]
    intro μ' H' L S' v r
    unfold Rep at r
    exact r
theorem law_end {l : PySem.W.OpenLaw} {w : World} {K : PySem.W.Frag} {mg : Str → Option Value} {h : Heap} {k n : Nat} {x : Str} {fa fL cL : Addr} {g : GC} {s : Stmt} {f : List D → Store → R D} (cs : List (Addr × Addr))
    {oc kV doc pm ct : Value} {od an : Option Addr} {osl : Array (Option Value)} (X : K.In h) (G₀ : h.Ns mainGlobals mg) (hK : g.K = K) (hm : mg "law" = some (.ref fa)) (a : PySem.W.nsIn K mainGlobals "law" = some (some (.ref fL)))
    (lk : K.lookup fL = some ⟨oc, od, .func (PySem.W.fnOf "law" "law" (defArgs s) (defBody s) (defScope s) .none kV doc pm an (.ref cL) ct), osl⟩) (hcd : PySem.W.codeIn K (.ref cL) "law" = true)
    (hT : ∀ p ∈ cs, h.get? p.2 = some { cls := .none, data := .fields #[] }) (nT : ∀ p ∈ cs, K.lookup p.2 = none) (C : ∀ p ∈ cs, PySem.W.CodeHd h p.1 p.2)
    (hb : ∀ us : List Value, us.length = 1 → bindArgs (PySem.W.fnOf "law" "law" (defArgs s) (defBody s) (defScope s) .none kV doc pm an (.ref cL) ct) ⟨us, []⟩ = pure ([x].zip us))
    (hg : ∀ p ∈ g.T, ∃ q ∈ cs, q.2 = p.1) (law : ∀ ns : List Int, ns.length ≤ n → ∃ st, f [.scr ns] [] = .ok (.bl true) st)
    (hF : ∀ base : Heap, K.In base → base.Ns mainGlobals mg → (∀ p ∈ cs, LamX.TabB base mg p.1 p.2) →
      g.K.lookup fL = some ⟨oc, od, .func (PySem.W.fnOf "law" "law" (defArgs s) (defBody s) (defScope s) .none kV doc pm an (.ref cL) ct), osl⟩ → PySem.W.codeIn g.K (.ref cL) "law" = true →
      FnOk l.prog w g.K mg base (L2.CX l.prog w) k fL (PySem.W.fnOf "law" "law" (defArgs s) (defBody s) (defScope s) .none kV doc pm an (.ref cL) ct) [x] (spD g 1 f)) : LamX.LawAtS l w K (L2.CX l.prog w) k n x mg fa h := by
  have e := hm.symm.trans (PySem.W.mg_of X G₀ a)
  cases e
  subst hK
  exact law_at cs rfl hT nT C (fun s u => .of_eq (hb [u] rfl)) hg law fun base h1 h2 h3 => hF base h1 h2 h3 lk hcd
end G

namespace G
open PySem L2 PySem.Spec PyProof.Rows GenW
/-! ### generator expressions -/
/-- who takes what a generator hands out: the objects that are its own, what it knows of them behind ys, what it asks of the j-th item -/
structure Con where
  as : List Addr
  inv : List V → List (Addr × Obj) → Prop
  item : Nat → V → Prop
structure Con.Ok (C : Con) : Prop where
  at_ : ∀ ys cp, C.inv ys cp → cp.map (·.1) = C.as
  nc : ∀ ys cp, C.inv ys cp → ∀ p ∈ cp, ∀ v, p.2.data ≠ .cell v
/-- while the generator sleeps -/
structure Slp (C : Con) (s s' : Shared) : Prop where
  os : s'.os = s.os
  bare : AllBare s'.gens
  keep : ∀ b o, b ∉ C.as → s.heap.get? b = some o → s'.heap.get? b = some o
def Ap (X : Cx) (C : Con) : Prop := ∀ S ∈ C.as, X.s_0.heap.objs.size ≤ S ∧ S ≠ X.env.locals ∧ (∀ x c, X.env.cells.lookup x = some c → c ≠ S) ∧ ∀ p ∈ X.pn, p.1 ≠ S
section
variable {X : Cx} {g : GC} {C : Con} {ip cp cp' : List (Addr × Obj)} {σ : L2.St} {H : Hp} {s s' : Shared} {ys : List V} {x : V}
theorem mem_as (CO : C.Ok) (h : C.inv ys cp) {p : Addr × Obj} (hp : p ∈ cp) : p.1 ∈ C.as := by
  rw [← CO.at_ _ _ h]
  exact List.mem_map_of_mem hp
theorem of_as (CO : C.Ok) (h : C.inv ys cp) {S : Addr} (hS : S ∈ C.as) : ∃ o, (S, o) ∈ cp := by
  rw [← CO.at_ _ _ h] at hS
  obtain ⟨p, hp, e⟩ := List.mem_map.mp hS
  exact ⟨p.2, by rw [← e]; exact hp⟩
theorem woken (CO : C.Ok) (hA : Ap X C) (hip : ∀ p ∈ ip, p.1 ∉ C.as) (h : C.inv ys cp) (h' : C.inv (ys ++ [x]) cp') (I : Inv X (cp ++ ip) σ H s) (z : Slp C s s') (hat : ∀ p ∈ cp', s'.heap.get? p.1 = some p.2) : Inv X (cp' ++ ip) σ H s' := by
  have fS : ∀ S ∈ C.as, H S = none ∧ S ≠ X.env.locals ∧ S ∉ X.fs := fun S hS => by
    obtain ⟨o, ho⟩ := of_as CO h hS
    obtain ⟨_, h2, h3, h4, _⟩ := I.pin (S, o) (List.mem_append_right _ (List.mem_append_left _ ho))
    exact ⟨h2, h3, h4⟩
  have I0 : Inv X ip σ H s := I.pins_of fun p hp => I.pin p (List.mem_append_right _ (List.mem_append_right _ hp))
  have nt : ∀ b u, H b = some u → b ∉ C.as := fun b u q hb => by rw [(fS b hb).1] at q; cases q
  obtain ⟨z1, z2, z3⟩ := z
  obtain ⟨hh, gg, d, t, o⟩ := s'
  have ho : o = s.os := z1
  subst ho
  have J : Inv X ip σ H { s with heap := hh, gens := gg, drawn := d, toks := t } := by
    refine I0.step (g' := gg) (t' := t) (d' := d) (ch := C.as) (fun b hb => ?_)
      (fun b ob _ _ hc q _ => z3 b ob hc q) (fun b ob _ _ hc q _ => ⟨ob.slots, z3 b ob hc q⟩) (fun _ _ _ _ n => n) (fun b ob hc q => ⟨ob, z3 b ob hc q⟩)
      (fun _ _ q => q) (fun _ _ _ q => q) (fun b ps q => ⟨#[], by rw [q]; simp⟩) (fun m hm => ?_) (fun b u q => ?_) z2
    · obtain ⟨a1, a2, a3, a4⟩ := hA b hb
      refine ⟨.inr a1, a2, a3, fun p hp => ?_⟩
      rcases List.mem_append.mp hp with hp | hp
      · exact a4 p hp
      · exact fun e => hip p hp (by rw [e]; exact hb)
    · obtain ⟨ob, es, ep, ho, r⟩ := hm
      exact ⟨ob, es, ep, z3 _ ob (fun hb => (hA _ hb).2.1 rfl) ho, r⟩
    · refine (I0.hok b u q).stay (fun c v hc y => z3 c v ?_ y) (fun _ y => y) fun _ _ y => y
      rcases hc with y | y
      · rw [y]; exact nt b u q
      · exact nt c _ y
  refine J.pins_of fun p hp => ?_
  rcases List.mem_append.mp hp with hp | hp
  · obtain ⟨f1, f2, f3⟩ := fS p.1 (mem_as CO h' hp)
    exact ⟨hat p hp, f1, f2, f3, CO.nc _ _ h' p hp⟩
  · exact J.pin p (List.mem_append_right _ hp)
end
theorem wipe_in : ∀ {vs : List Nat} {env : Env} {j : Nat} {d : D}, (wipeE env vs)[j]? = some (some d) → j ∉ vs
  | [], _, _, _, _ => List.not_mem_nil
  | v :: vs, env, j, d, h => by
    have h : ((wipeE env vs).set v none)[j]? = some (some d) := h
    intro hj
    by_cases e : v = j
    · subst e
      by_cases hl : v < (wipeE env vs).length
      · rw [List.getElem?_set_self hl] at h; cases h
      · rw [List.getElem?_eq_none (by rw [List.length_set]; omega)] at h; cases h
    · rw [List.getElem?_set_ne e] at h
      exact wipe_in h ((List.mem_cons.mp hj).resolve_left fun q => e q.symm)
theorem wipe_none : ∀ {vs : List Nat} {σ : L2.St} {j : Nat} {v : V}, j ∈ vs → (L2.wipe σ vs)[j]? = some (some v) → False
  | v :: vs, σ, j, d, hj, h => by
    have h : ((L2.wipe σ vs).set v none)[j]? = some (some d) := h
    by_cases e : v = j
    · subst e
      by_cases hl : v < (L2.wipe σ vs).length
      · rw [List.getElem?_set_self hl] at h; cases h
      · rw [List.getElem?_eq_none (by rw [List.length_set]; omega)] at h; cases h
    · rw [List.getElem?_set_ne e] at h
      exact wipe_none ((List.mem_cons.mp hj).resolve_left fun q => e q.symm) h
theorem RelE.but {g : GC} {μ : Mp} {H : Hp} {env : Env} {vs is : List Nat} {σ σ' : L2.St} (E : RelE g μ H (wipeE env vs) σ) (hv : ∀ i ∈ is, i ∈ vs) (b : But is σ σ') : RelE g μ H (wipeE env vs) σ' := by
  refine ⟨E.len.trans b.1.symm, fun i d e => ?_⟩
  rw [b.2 i fun z => wipe_in e (hv i z)]
  exact E.at_ i d e
/-- what is handed out -/
def GxY (X : Cx) (C : Con) : Protocol := fun n _ v s kap => ∃ ys x cp ip σ H, n + 1 + ys.length = sizeLine ∧ RelV x v ∧ C.item ys.length x ∧ C.inv ys cp ∧ Inv X (cp ++ ip) σ H s ∧ ∀ s' cp', Slp C s s' → C.inv (ys ++ [x]) cp' → (∀ p ∈ cp', s'.heap.get? p.1 = some p.2) → kap (.send .none) s'
/-- the end -/
def GxR (X : Cx) (g : GC) (C : Con) (μ1 : Mp) (H1 : Hp) (outs : List D) (st2 : Store) : GenEnd := fun n _ r s1 => r = .ok .next ∧ ∃ ys cp σ H μ, n + ys.length = sizeLine ∧ C.inv ys cp ∧ Inv X cp σ H s1 ∧ Le μ1 H1 μ H ∧ RelS g μ H st2 ∧ Reps g μ H outs ys
section
variable {X : Cx} {g : GC} {C : Con} {A : Around} {elt tg iter : Expr} {ifs : List Expr} {scope : Scope} {pos : Pos} {it : Addr} {fp : List Addr} {tn : Nat → Heap → Prop} {J : It} {is vs : List Nat} {gt : DG} {ft : DT} {fe : DE} {gd : Gd} {μ1 : Mp} {H1 : Hp} {st2 : Store} {env : Env} {ds outs : List D}
theorem gx_loop (hA : A.over (.compLoop (.GeneratorExp elt [⟨tg, iter, ifs, 0⟩] scope pos) 0 (.ref it) .none X.env) [] = X.A) (hxe : ∀ e s, X.xe e s → False) (hcalm : X.calm = true) (hco : X.env.scope.isCoroutine = false) (CO : C.Ok) (hAp : Ap X C) (hfp : ∀ b ∈ fp, b ∉ C.as)
    (T : Turn X.prog X.w X.K tg J fp it tn) (hg : PGD X g tg is gt) (ht : PTsD X g W0 ifs ft) (he : PD X g W0 elt fe) (hv : ∀ i ∈ is, i ∈ vs) (hl : ds.length ≤ 16777216) (hit : ∀ j d x μ H, outs[j]? = some d → Rep g μ H d x → C.item j x) :
    ∀ (m i n : Nat) (s₀ s : Shared) (ys : List V) (od : List D) (cp : List (Addr × Obj)) (σ : L2.St) (H : Hp) (μ : Mp) (st : Store), ds.length - i = m → i ≤ ds.length → n + ys.length = sizeLine → ys.length ≤ i → C.inv ys cp → Inv X cp σ H s → (∀ b ∈ fp, FpOk X cp H b) → tn i s.heap →
      Le μ1 H1 μ H → RelS g μ H st → RelE g μ H (wipeE env vs) σ → ItOk g J ds gd μ H → Reps g μ H od ys → (∃ xs, lcD gt ft fe gd (ds.drop i) (wipeE env vs) st = .ok xs st2 ∧ outs = od ++ xs) →
      Seg (model X.prog X.w) A (GxR X g C μ1 H1 outs st2) (GxY X C) n s₀ (.compLoop (.GeneratorExp elt [⟨tg, iter, ifs, 0⟩] scope pos) 0 (.ref it) .none X.env)
        ((model X.prog X.w).den (.compLoop (.GeneratorExp elt [⟨tg, iter, ifs, 0⟩] scope pos) 0 (.ref it) .none X.env)) [] s := by
  intro m
  induction m with
  | zero =>
    intro i n s₀ s ys od cp σ H μ st hm hi hn hy hc I hf htn L S E hJ rd ⟨xs, e, eo⟩
    have hin : i = ds.length := by omega
    subst hin
    rw [List.drop_length] at e
    have e : (if gdOk gd st = true then R.ok [] st else R.bad) = .ok xs st2 := e
    split at e
    · rename_i hgd
      cases e
      have hstop := (hJ μ H _ Lw.refl S hgd).2
      show Seg _ A _ _ _ s₀ _ ((compTurn (.GeneratorExp elt [⟨tg, iter, ifs, 0⟩] scope pos) 0 (.ref it) .none X.env).onRaise (leaving X.env)) [] s
      rw [compTurn_gen, Sem.onRaise_eq_wrap]
      refine seg_bind_wrap (wpAny_standAt ?_)
      refine seg_bind_wrap ?_
      rw [hA]
      refine thn (T.done X rfl rfl rfl hcalm ds.length cp s σ H _ I hf htn hstop) fun r s1 hr => ?_
      obtain ⟨hr, I1⟩ := hr
      subst hr
      refine seg_end (.ok .next) ⟨rfl, ys, cp, σ, H, μ, hn, hc, I1, L, S, ?_⟩
      rw [eo, List.append_nil]
      exact rd
    · cases e
  | succ m ih =>
    intro i n s₀ s ys od cp σ H μ st hm hi hn hy hc I hf htn L S E hJ rd ⟨xs, e, eo⟩
    have hlt : i < ds.length := by omega
    rw [List.drop_eq_getElem_cons hlt] at e
    have e : (if gdOk gd st = true then (match gt ds[i] (wipeE env vs) with
      | none => R.bad
      | some env1 => (ft env1 st).b fun b st => if b = true then (fe env1 st).b fun x st => (lcD gt ft fe gd (ds.drop (i + 1)) (wipeE env vs) st).b fun xs st => .ok (x :: xs) st else lcD gt ft fe gd (ds.drop (i + 1)) (wipeE env vs) st) else R.bad) = .ok xs st2 := e
    split at e
    · rename_i hgd
      obtain ⟨hgo, hyl⟩ := (hJ μ H st Lw.refl S hgd).1 i ds[i] (List.getElem?_eq_getElem hlt)
      cases eg : gt ds[i] (wipeE env vs) with
      | none => rw [eg] at e; cases e
      | some env2 =>
        rw [eg] at e
        have e : ((ft env2 st).b fun b st => if b = true then (fe env2 st).b fun x st => (lcD gt ft fe gd (ds.drop (i + 1)) (wipeE env vs) st).b fun xs st => .ok (x :: xs) st else lcD gt ft fe gd (ds.drop (i + 1)) (wipeE env vs) st) = .ok xs st2 := e
        have xf : ∀ {α : Type} {t : Sem α} {Q : α → Shared → Prop} {E' : Value → Shared → Prop} {s : Shared}, wpAny (model X.prog X.w) X.A t Q X.xe s → wpAny (model X.prog X.w) X.A t Q E' s := fun h => wpAny_mono h (fun _ _ z => z) fun _ _ z => (hxe _ _ z).elim
        show Seg _ A _ _ _ s₀ _ ((compTurn (.GeneratorExp elt [⟨tg, iter, ifs, 0⟩] scope pos) 0 (.ref it) .none X.env).onRaise (leaving X.env)) [] s
        rw [compTurn_gen, Sem.onRaise_eq_wrap]
        refine seg_bind_wrap (wpAny_standAt ?_)
        refine seg_bind_wrap ?_
        rw [hA]
        refine thn (T.item X rfl rfl rfl hcalm i cp s σ H _ I hf htn hgo) fun r s1 hr => ?_
        obtain ⟨u, hr, h1⟩ := hr
        subst hr
        refine seg_bind_wrap ?_
        rw [hA]
        refine thn h1 fun _ s2 h2 => ?_
        obtain ⟨x, H2, I2, rx, y2, tn2, fr2⟩ := h2
        obtain ⟨Lb, S2, r2⟩ := hyl x H2 y2
        have I2' := I2.pinned (fun b hb => (⟨fr2 b hb, (hf b hb).2⟩ : FpOk X cp H2 b)) (T.obj _ _ tn2)
        have hip : ∀ p ∈ pinsAt fp s2.heap, p.1 ∉ C.as := fun p hp => hfp _ (of_pinsAt hp).1
        have back : ∀ {σ' : L2.St} {H' : Hp} {s' : Shared} {cq : List (Addr × Obj)}, Inv X (cq ++ pinsAt fp s2.heap) σ' H' s' → (∀ b ∈ fp, H' b = none) ∧ tn (i + 1) s'.heap := fun {σ' H' s' cq} I' =>
          ⟨fun b hb => by
            obtain ⟨o, eo, _⟩ := T.obj _ _ tn2 b hb
            exact (I'.pin (b, o) (List.mem_append_right _ (List.mem_append_right _ (mem_pinsAt hb eo)))).2.1,
          T.keep _ _ _ tn2 fun b hb o eo => (I'.pin (b, o) (List.mem_append_right _ (List.mem_append_right _ (mem_pinsAt hb eo)))).1⟩
        refine seg_bind_wrap ?_
        rw [hA]
        refine xf (thn (hg.run _ s2 σ H2 x u (fun σ3 H3 => H3 = H2 ∧ RelE g μ H2 env2 σ3 ∧ But is σ σ3) I2' rx ⟨μ, wipeE env vs, st, ds[i], S2, E.le Lb, r2, env2, eg, fun σ' E' bt => ⟨rfl, E', bt⟩⟩) fun _ s3 h3 => ?_)
        obtain ⟨σ3, H3, I3, eH, E3, bt⟩ := h3
        rw [eH] at I3
        have E3w := (E.le Lb).but hv bt
        refine seg_bind_wrap ?_
        rw [hA]
        cases et : ft env2 st with
        | ex c st3 => rw [et] at e; cases e
        | bad => rw [et] at e; cases e
        | ok bb st3 =>
          rw [et] at e
          refine xf (thn (ht.run _ s3 σ3 H2 (fun b H4 => ∃ μ3, Le μ H2 μ3 H4 ∧ RelS g μ3 H4 st3 ∧ b = bb) I3 ⟨μ, env2, st, S2, E3, by rw [et]; exact fun μ3 H4 L3 S3 => ⟨μ3, L3, S3, rfl⟩⟩) fun b s4 h4 => ?_)
          obtain ⟨H4, I4, μ3, L3, S3, eb⟩ := h4
          subst eb
          have L23 := Lb.trans L3
          cases b with
          | false =>
            obtain ⟨n1, n2⟩ := back I4
            simp only [Bool.false_eq_true, if_false]
            exact seg_again rfl (ih (i + 1) n s₀ s4 ys od cp σ3 H4 μ3 st3 (by omega) hlt hn (by omega) hc I4.unpinned (fun b hb => ⟨n1 b hb, (hf b hb).2⟩) n2 (L.trans L23) S3 (E3w.le L3) (hJ.le L23.toLw) (rd.le L23) ⟨xs, e, eo⟩)
          | true =>
            simp only [if_true]
            have hyo : ∀ v, yieldOut X.env v = yieldValue v := fun v => by simp only [yieldOut, hco, Bool.false_eq_true, if_false]
            simp only [hyo]
            rw [Sem.bind_eq_wrap', Sem.bind_eq_wrap', Sem.wrap_wrap, Sem.wrap_wrap]
            have e : ((fe env2 st3).b fun x st => (lcD gt ft fe gd (ds.drop (i + 1)) (wipeE env vs) st).b fun xs st => .ok (x :: xs) st) = .ok xs st2 := e
            cases ee : fe env2 st3 with
            | ex c st4 => rw [ee] at e; cases e
            | bad => rw [ee] at e; cases e
            | ok yd st4 =>
              rw [ee] at e
              have e : ((lcD gt ft fe gd (ds.drop (i + 1)) (wipeE env vs) st4).b fun xs st => .ok (yd :: xs) st) = .ok xs st2 := e
              cases er : lcD gt ft fe gd (ds.drop (i + 1)) (wipeE env vs) st4 with
              | ex c st5 => rw [er] at e; cases e
              | bad => rw [er] at e; cases e
              | ok xs2 st5 =>
                rw [er] at e
                cases e
                refine seg_wrap ?_
                rw [hA]
                refine xf (thn (he.run _ s4 σ3 H4 (fun v H5 => ∃ μ4, Le μ3 H4 μ4 H5 ∧ RelS g μ4 H5 st4 ∧ Rep g μ4 H5 yd v) I4 ⟨μ3, env2, st3, S3, E3.le L3, by rw [ee]; exact fun μ4 H5 L4 S4 v rv => ⟨μ4, L4, S4, rv⟩⟩) fun uv s5 h5 => ?_)
                obtain ⟨v, H5, I5, rv, μ4, L4, S4, rd4⟩ := h5
                have L24 := L23.trans L4
                obtain ⟨n', rfl⟩ : ∃ n', n = n' + 1 := ⟨n - 1, by rw [sizeLine_eq] at hn; omega⟩
                have hj : outs[ys.length]? = some yd := by
                  rw [eo, ← rd.len]
                  simp
                refine seg_at (seg_yield rfl rfl rfl ⟨ys, v, cp, pinsAt fp s2.heap, σ3, H5, hn, rv, hit _ _ _ _ _ hj rd4, hc, I5, fun s'' cp' z hc' hat => ?_⟩)
                have I6 := woken CO hAp hip hc hc' I5 z hat
                obtain ⟨n1, n2⟩ := back I6
                refine seg_again rfl (ih (i + 1) n' s'' s'' (ys ++ [v]) (od ++ [yd]) cp' σ3 H5 μ4 st4 (by omega) hlt (by simp; omega) (by simp; omega) hc' I6.unpinned (fun b hb => ⟨n1 b hb, (hf b hb).2.1, (hf b hb).2.2.1, (hf b hb).2.2.2.1, (hf b hb).2.2.2.2.1, fun p hp => (List.mem_append.mp hp).elim (fun z => (hf b hb).2.2.2.2.2 p (List.mem_append_left _ z)) fun z => fun w => hfp b hb (by rw [← w]; exact mem_as CO hc' z)⟩) n2 (L.trans L24) S4 ((E3w.le L3).le L4) (hJ.le L24.toLw) ((rd.le L24).append ⟨v, [], rfl, rd4, rfl⟩) ⟨xs2, er, by rw [eo]; simp⟩)
    · cases e
end
theorem over_comp {A : Around} {elt tg iter : Expr} {ifs : List Expr} {scope : Scope} {pos : Pos} {it : Value} {env : PySem.Env} : A.over (.compLoop (.GeneratorExp elt [⟨tg, iter, ifs, 0⟩] scope pos) 0 it .none env) [] = A.deeper env := by
  obtain ⟨hd, d, fr, gs, u⟩ := A
  cases fr <;> cases gs <;> rfl
section
variable {X : Cx} {g : GC} {C : Con} {A : Around} {elt tg iter : Expr} {ifs : List Expr} {scope : Scope} {pos : Pos} {it : Addr} {fp : List Addr} {tn : Nat → Heap → Prop} {J : It}
theorem gx_start {R : GenEnd} {Y : Protocol} {n : Nat} {s₀ s : Shared} {env : PySem.Env} {P : Program} {w : World} {K : PySem.W.Frag} (T : Turn P w K tg J fp it tn) (htn : tn 0 s.heap)
    (loop : Seg (model P w) A R Y n s₀ (.compLoop (.GeneratorExp elt [⟨tg, iter, ifs, 0⟩] scope pos) 0 (.ref it) .none env) ((model P w).den (.compLoop (.GeneratorExp elt [⟨tg, iter, ifs, 0⟩] scope pos) 0 (.ref it) .none env)) [] s) :
    Seg (model P w) A R Y n s₀ (.compStart (.GeneratorExp elt [⟨tg, iter, ifs, 0⟩] scope pos) 0 (.ref it) .none env) ((model P w).den (.compStart (.GeneratorExp elt [⟨tg, iter, ifs, 0⟩] scope pos) 0 (.ref it) .none env)) [] s := by
  show Seg _ A _ _ _ s₀ _ ((compStart (.GeneratorExp elt [⟨tg, iter, ifs, 0⟩] scope pos) 0 (.ref it) .none env).onRaise (leaving env)) [] s
  unfold compStart
  rw [Sem.onRaise_eq_wrap]
  show Seg _ A _ _ _ s₀ _ ((ask >>= _).wrap _ _ _ _) [] s
  refine seg_bind_wrap (wpAny_askSetting ?_)
  split
  · exact seg_again rfl loop
  · refine seg_bind_wrap (wpAny_rule ?_)
    show Seg _ A _ _ _ s₀ _ ((standAt iter.pos >>= _).wrap _ _ _ _) [] s
    exact seg_bind_wrap (wpAny_standAt (seg_bind_wrap (T.self _ 0 s _ _ htn (seg_again rfl loop))))
/-! ### the generator's frame -/
/-- the scope of a generator expression: its own names (own: with their places), the walked thing, captured names -/
structure GxS (N : List Str) (sc scope : Scope) (own : List (Str × Nat)) : Prop where
  kind : scope.kind = .function
  co : scope.isCoroutine = false
  cell : ∀ y ∈ scope.names, y.2 ≠ .cell
  dot : scope.names.lookup (".0" : Str) = some NameKind.local
  own : ∀ y ∈ scope.names, y.2 = .local → y.1 = (".0" : Str) ∨ ∃ i, (y.1, i) ∈ own ∧ N[i]? = some y.1
  nd : (".0" : Str) ∉ N
  free : ∀ y ∈ scope.names, y.2 = .free → sc.names.lookup y.1 = some .cell ∨ sc.names.lookup y.1 = some .free
def gxSB (N : List Str) (sc scope : Scope) (own : List (Str × Nat)) : Bool :=
  decide (scope.kind = .function) && !scope.isCoroutine && decide (scope.names.lookup (".0" : Str) = some NameKind.local) && !N.contains (".0" : Str) && scope.names.all fun y => !decide (y.2 = .cell) &&
    (!decide (y.2 = .local) || y.1 == (".0" : Str) || own.any fun p => p.1 == y.1 && N[p.2]? == some y.1) && (!decide (y.2 = .free) || decide (sc.names.lookup y.1 = some .cell) || decide (sc.names.lookup y.1 = some .free))
theorem gxS_by {N : List Str} {sc scope : Scope} {own : List (Str × Nat)} (h : gxSB N sc scope own = true) : GxS N sc scope own := by
  unfold gxSB at h
  simp only [Bool.and_eq_true, Bool.or_eq_true, Bool.not_eq_true', decide_eq_true_eq, decide_eq_false_iff_not, List.all_eq_true, List.any_eq_true, beq_iff_eq] at h
  obtain ⟨⟨⟨⟨h1, h2⟩, h3⟩, h4⟩, h5⟩ := h
  refine ⟨h1, h2, fun y hy => (h5 y hy).1.1, h3, fun y hy e => ?_, fun z => ?_, fun y hy e => ?_⟩
  · rcases (h5 y hy).1.2 with (z | z) | ⟨p, hp, z1, z2⟩
    · exact absurd e z
    · exact .inl z
    · exact .inr ⟨p.2, by rw [← z1]; exact hp, z2⟩
  · rw [List.contains_eq_mem] at h4
    exact of_decide_eq_false h4 z
  · rcases (h5 y hy).2 with (z | z) | z
    · exact absurd e z
    · exact .inl z
    · exact .inr z
abbrev gxEnv (X : Cx) (scope : Scope) (L : Addr) (code : Value) : PySem.Env := genEnv scope (cloFrom X.env.cells scope.names []) L code builtinsNs X.env
def gxCx (X : Cx) (A : Around) (s : Shared) (H : Hp) (env : PySem.Env) (fp : List Addr) (pn : List (Addr × Obj)) : Cx where
  prog := X.prog
  w := X.w
  K := X.K
  mg := X.mg
  base := X.base
  A := A.deeper env
  N := X.N
  s_0 := s
  H_0 := H
  env := env
  outer := X.stack
  stack := env :: X.stack
  ex := fp
  fn := fun _ => false
  calm := true
  pn := pn
  xe := fun _ _ => False
theorem gx_inv {pins : List (Addr × Obj)} {σ : L2.St} {H : Hp} {s s2 : Shared} {L a : Addr} {go : Obj} {code : Value} {own : List (Str × Nat)} (I : Inv X pins σ H s) (S : GxS X.N X.env.scope scope own) (hN : X.N.Nodup) (hfr : A.frames = some X.stack) (hd : A.handled = none)
    (hL : s.heap.objs.size ≤ L) (ha : s.heap.objs.size ≤ a) (haL : a ≠ L) (hk : ∀ b o, s.heap.get? b = some o → s2.heap.get? b = some o) (hos : s2.os = s.os) (hb : AllBare s2.gens) (hns : s2.heap.Ns L fun y => if y = (".0" : Str) then some (.ref it) else none) (hga : s2.heap.get? a = some go) (hgc : ∀ v, go.data ≠ .cell v)
    (hfp : ∀ b ∈ fp, FpOk X pins H b) (hob : ∀ b ∈ fp, ∃ o, s.heap.get? b = some o) : Inv (gxCx X A s H (gxEnv X scope L code) fp [(a, go)]) [] (L2.wipe σ (own.map (·.2))) H s2 := by
  have e0 := I.env0
  have hfree : ∀ y ∈ scope.names, y.2 = .free → ∃ c, X.env.cells.lookup y.1 = some c := fun y hy e => by
    rcases S.free y hy e with k | k
    · exact I.ok.has _ (.inl k)
    · exact I.ok.has _ (.inr k)
  have cm : ∀ {y c}, (cloFrom X.env.cells scope.names []).lookup y = some c → X.env.cells.lookup y = some c := fun {y c} e => by
    rcases cloFrom_mem (PySem.mem_of_lookup e) with hm | ⟨h1, h2⟩
    · cases hm
    · obtain ⟨c1, hc⟩ := hfree _ h1 rfl
      have hc : X.env.cells.lookup y = some c1 := hc
      have e2 : c = c1 := by rw [h2, hc] <;> rfl
      rw [e2]
      exact hc
  have look : ∀ {y}, scope.names.lookup y = some .free → ∃ c, (cloFrom X.env.cells scope.names []).lookup y = some c := fun {y} hl => by
    have hy : (y, NameKind.free) ∈ scope.names := PySem.mem_of_lookup hl
    exact mem_lookup (cloFrom_has (cells := X.env.cells) (acc := []) hy)
  have nof : ∀ {b}, s.heap.objs.size ≤ b → b ∉ frs X.stack := fun {b} h z => by
    rcases List.mem_cons.mp (I.stkSub _ z) with e | e
    · have h1 := I.lt
      rw [← e] at h1
      exact Nat.lt_irrefl _ (Nat.lt_of_lt_of_le h1 h)
    · exact I.nofs h e
  have old : ∀ {b}, b ∈ fp → b < s.heap.objs.size := fun {b} hb => by
    obtain ⟨o, e⟩ := hob b hb
    exact Heap.lt_size e
  refine ⟨⟨e0.mod, S.kind, I.ok.glob, rfl, hL, fun y z c e1 e2 => I.ok.inj y z c (cm e1) (cm e2), fun y hy => ?_, fun y c z _ => (nomatch (show false = true from z)), fun _ => hd, ?_, .inr ⟨rfl, rfl⟩, fun b hb => ⟨fun z => ?_, fun x c e => (hfp b hb).2.2.2.2.1 x c (cm e)⟩,
      e0.bs, e0.bsz, fun b o e hb => ?_, fun b hb z => ?_, e0.funs, e0.frf⟩,
    hos, hb, Un.kept hk, ⟨_, hns, fun i y v e1 e2 e3 => ?_⟩, fun y c e => ?_, I.hok.fresh hL, fun y c e => I.freeC y c (cm e), fun p hp => ?_, I.hok.kept hk, ?_⟩
  · have hy : scope.names.lookup y = some .cell ∨ scope.names.lookup y = some .free := hy
    rcases hy with hy | hy
    · exact absurd rfl (S.cell _ (PySem.mem_of_lookup hy))
    · exact look hy
  · show A.frames.map (_ :: ·) = _
    rw [hfr]
    rfl
  · have h1 := old hb
    have z : b = L := z
    rw [z] at h1
    exact Nat.lt_irrefl _ (Nat.lt_of_lt_of_le h1 hL)
  · have hb : b ∈ fp := hb
    rcases (hfp b hb).2.2.2.1 with z | z
    · exact I.ok.noex b o e z
    · exact Nat.lt_irrefl _ (Nat.lt_of_lt_of_le (Heap.lt_size e) (Nat.le_trans I.ok.bsz z))
  · rcases List.mem_cons.mp (I.stkSub b z) with e | e
    · exact (hfp b hb).2.1 e
    · exact (hfp b hb).2.2.1 e
  · have e3 : Vis scope y := e3
    have e1 : X.N[i]? = some y := e1
    have e2 : (L2.wipe σ (own.map (·.2)))[i]? = some (some v) := e2
    have notown : ∀ j, (y, j) ∈ own → X.N[j]? = some y → False := fun j hj hNj => by
      have hij : i = j := nodup_ix hN e1 hNj
      subst hij
      exact wipe_none (List.mem_map_of_mem (f := (·.2)) hj) e2
    rcases e3 with k | k | k
    · exfalso
      rcases S.own _ (PySem.mem_of_lookup k) rfl with z | ⟨j, z1, z2⟩
      · have z : y = (".0" : Str) := z
        exact S.nd (by rw [← z]; exact List.mem_of_getElem? e1)
      · exact notown j z1 z2
    · exact absurd rfl (S.cell _ (PySem.mem_of_lookup k))
    · obtain ⟨m, hn, hl⟩ := I.loc
      have hvis : Vis X.env.scope y := (S.free _ (PySem.mem_of_lookup k) rfl).elim (fun k => .inr (.inl k)) (fun k => .inr (.inr k))
      have hout : i ∉ own.map (·.2) := fun z => wipe_none z e2
      rw [L2.wipe_out hout] at e2
      obtain ⟨w', r, q⟩ := hl i y v e1 e2 hvis
      obtain ⟨c2, h2⟩ := look k
      refine ⟨w', r, .inr ⟨.inr k, c2, h2, ?_⟩⟩
      have c1 := cm h2
      rcases q with ⟨k', _⟩ | ⟨_, c3, e', z⟩
      · have k' : X.env.scope.names.lookup y = some .local := k'
        rcases S.free _ (PySem.mem_of_lookup k) rfl with k2 | k2 <;> rw [show X.env.scope.names.lookup y = _ from k2] at k' <;> cases k'
      · have e9 : c3 = c2 := by
          rw [c1] at e'
          exact (Option.some.inj e').symm
        rw [← e9]
        obtain ⟨o, ho, hd2⟩ := z
        exact ⟨o, hk _ _ ho, hd2⟩
  · obtain ⟨v, o, ho, hd2⟩ := I.cell y c (cm e)
    exact ⟨v, o, hk _ _ ho, hd2⟩
  · have hp : p ∈ [(a, go)] ++ [] := hp
    rw [List.append_nil] at hp
    rw [List.mem_singleton.mp hp]
    exact ⟨hga, I.hok.fresh ha, haL, nof ha, hgc⟩
  · show (L2.wipe σ _).length = X.N.length
    rw [L2.wipe_length]
    exact I.len
end
end G

namespace G
open PySem L2 PySem.Spec PyProof.Rows GenW
/-! ### the promise of a generator expression -/
def GPub (sc : Shared) (C : Con) (a : Addr) (g : Nat) : Protocol := fun n _ v s kap => s.os = sc.os ∧ AllBare s.gens ∧ s.heap.NoLimit ∧ s.heap.IsGen a g ∧
  ∃ ys x cp, n + 1 + ys.length = sizeLine ∧ RelV x v ∧ C.item ys.length x ∧ C.inv ys cp ∧ (∀ p ∈ cp, s.heap.get? p.1 = some p.2) ∧ ∀ s' cp', Slp C s s' → C.inv (ys ++ [x]) cp' → (∀ p ∈ cp', s'.heap.get? p.1 = some p.2) → kap (.send .none) s'
def GFin (P : Program) (w : World) (outer : List PySem.Env) (H : Hp) (sc : Shared) (ex : List Addr) (C : Con) (Q : List V → Hp → Prop) (n : Nat) (s1 : Shared) : Prop :=
  ∃ H' ys cp, s1.os = sc.os ∧ AllBare s1.gens ∧ Un (frs outer) ex H H' sc.heap s1.heap ∧ HOk P w H' s1.heap ∧ (∀ S ∈ C.as, H' S = none) ∧ C.inv ys cp ∧ (∀ p ∈ cp, s1.heap.get? p.1 = some p.2) ∧ n + ys.length = sizeLine ∧ Q ys H'
def GEnd' (P : Program) (w : World) (outer : List PySem.Env) (H : Hp) (sc : Shared) (ex : List Addr) (C : Con) (Q : List V → Hp → Prop) : GenEnd := fun n s₀ r s1 =>
  ((r = .ok (.ret .none) ∨ r = .ok .next) ∧ GFin P w outer H sc ex C Q n s1) ∨ ∃ e, r = .error e ∧ False
/-- a generator that has not begun: It tells its items, Q its end -/
def GMk (P : Program) (w : World) (k : Nat) (outer : List PySem.Env) (H : Hp) (sc : Shared) (ex : List Addr) (It : Nat → V → Prop) (Q : List V → Hp → Prop) (u : Value) (s' : Shared) : Prop :=
  ∃ (a : Addr) (g : Nat) (c : Code), u = .ref a ∧ sc.heap.objs.size ≤ a ∧ a < s'.heap.objs.size ∧ s'.heap.IsGen a g ∧ s'.gens[g]? = some (.fresh c) ∧ s'.os = sc.os ∧ AllBare s'.gens ∧ s'.heap.NoLimit ∧ (∀ b o, sc.heap.get? b = some o → s'.heap.get? b = some o) ∧
    ∀ (A : Around) (C : Con) (s2 : Shared) (cp : List (Addr × Obj)), Room k A → A.frames = some outer → C.Ok → (∀ j x, It j x → C.item j x) → (∀ S ∈ C.as, s'.heap.objs.size ≤ S) → (∀ b o, s'.heap.get? b = some o → s2.heap.get? b = some o) → C.inv [] cp → (∀ p ∈ cp, s2.heap.get? p.1 = some p.2) → s2.os = sc.os → AllBare s2.gens →
      Seg (model P w) A (GEnd' P w outer H sc ex C Q) (GPub sc C a g) sizeLine s2 c ((model P w).den c) [] s2
/-- the table of the frame's code object, for generator expressions -/
def Lg (X : Cx) (g : GC) : Prop := ∃ c P, LamX.TabB X.base X.mg c P ∧ X.env.code = .ref c ∧ (P, X.env.qual ++ "<genexpr>") ∈ g.T ∧ ∀ p ∈ g.T, p.1 = P → p.2 = X.env.qual ++ "<genexpr>"
abbrev Th := Store → R (List D)
/-- an expression whose value is a generator -/
structure PGx (X : Cx) (g : GC) (W : WX) (k : Nat) (e : Expr) (f : Env → Store → R Th) : Prop where
  run : ∀ (pins : List (Addr × Obj)) (s : Shared) (σ : L2.St) (H : Hp) (Q : Value → Shared → Prop) (μ : Mp) (env : Env) (st : Store), Inv X pins σ H s → RelS g μ H st → RelE g μ H env σ →
    Post g W σ μ H (f env st) (fun μ1 H1 th st1 => match th st1 with
      | .ok outs st2 => ∀ u sc ex s', Inv X pins σ H1 sc → ExOk X pins ex → GMk X.prog X.w k X.stack H1 sc ex (fun j x => ∃ d μ H, outs[j]? = some d ∧ Rep g μ H d x) (fun ys H' => ∃ μ', Le μ1 H1 μ' H' ∧ RelS g μ' H' st2 ∧ Reps g μ' H' outs ys) u s' → Q u s'
      | _ => False) →
    wpAny (model X.prog X.w) X.A (eval e X.env) Q X.xe s
/-- what a generator expression will hand out -/
def dGx (fi : DI) (gt : DG) (ft : DT) (fe : DE) (vs : List Nat) : Env → Store → R Th := fun env st => (fi env st).bind fun p st => .ok (fun st' => if p.1.length ≤ 16777216 then lcD gt ft fe p.2 p.1 (wipeE env vs) st' else .bad) st
section
variable {X : Cx} {g : GC} {W : WX} {k : Nat} {pos : Pos}
theorem Ok.gx {A : Around} {s : Shared} {H : Hp} {env : PySem.Env} {fp : List Addr} {pn : List (Addr × Obj)} {j : Nat} (O : Ok X g W k) (hr : Room (j + 1) A) : Ok (gxCx X A s H env fp pn) g W0 j := ⟨O.hK, LamX.takes0, PassesOwn.never, rfl, O.nd, hr.deeper _⟩
theorem pg_gx {elt tg iter : Expr} {ifs : List Expr} {scope : Scope} {own : List (Str × Nat)} {fi : DI} {is : List Nat} {gt : DG} {ft : DT} {fe : DE} {j kk : Nat} (O : Ok X g W kk) (M : Lg X g) (hi : PID X g W tg iter fi) (S : GxS X.N X.env.scope scope own)
    (hg : ∀ (A : Around) (s : Shared) (H : Hp) (L : Addr) (cd : Value) (fp : List Addr) (pn : List (Addr × Obj)), Ok (gxCx X A s H (gxEnv X scope L cd) fp pn) g W0 j → PGD (gxCx X A s H (gxEnv X scope L cd) fp pn) g tg is gt)
    (ht : ∀ (A : Around) (s : Shared) (H : Hp) (L : Addr) (cd : Value) (fp : List Addr) (pn : List (Addr × Obj)), Ok (gxCx X A s H (gxEnv X scope L cd) fp pn) g W0 j → PTsD (gxCx X A s H (gxEnv X scope L cd) fp pn) g W0 ifs ft)
    (he : ∀ (A : Around) (s : Shared) (H : Hp) (L : Addr) (cd : Value) (fp : List Addr) (pn : List (Addr × Obj)), Ok (gxCx X A s H (gxEnv X scope L cd) fp pn) g W0 j → PD (gxCx X A s H (gxEnv X scope L cd) fp pn) g W0 elt fe)
    (hs : ∀ v, genFold iter X.env v = pure v := by intro _; rfl) (hv : ∀ i ∈ is, i ∈ own.map (·.2) := by decide) : PGx X g W (j + 1) (.GeneratorExp elt [⟨tg, iter, ifs, 0⟩] scope pos) (dGx fi gt ft fe (own.map (·.2))) := by
  refine ⟨fun pins s σ H Q μ env st I S0 E0 h => ?_⟩
  obtain ⟨c, P, TB, hcode, hmT, hu⟩ := M
  have hfree : ∀ y ∈ scope.names, y.2 = .free → ∃ c, X.env.cells.lookup y.1 = some c := fun y hy e => by
    rcases S.free y hy e with k | k
    · exact I.ok.has _ (.inl k)
    · exact I.ok.has _ (.inr k)
  refine wpAny_GeneratorExp_make S.co (closure_ok hfree) S.cell S.dot S.kind (by have := O.room.dp; omega) ?_ hs
  have hq : tDI g W fi σ H (fun J H1 => ∃ (μ1 : Mp) (st1 : Store) (p : List D × Gd), Le μ H μ1 H1 ∧ RelS g μ1 H1 st1 ∧ RelE g μ1 H1 env σ ∧ ItOk g J p.1 p.2 μ1 H1 ∧ Post g W σ μ1 H1 (R.ok (fun st' => if p.1.length ≤ 16777216 then lcD gt ft fe p.2 p.1 (wipeE env (own.map (·.2))) st' else R.bad) st1 : R Th) (fun μ1 H1 th st1 => match th st1 with
      | .ok outs st2 => ∀ u sc ex s', Inv X pins σ H1 sc → ExOk X pins ex → GMk X.prog X.w (j + 1) X.stack H1 sc ex (fun j x => ∃ d μ H, outs[j]? = some d ∧ Rep g μ H d x) (fun ys H' => ∃ μ', Le μ1 H1 μ' H' ∧ RelS g μ' H' st2 ∧ Reps g μ' H' outs ys) u s' → Q u s'
      | _ => False)) := bindI S0 E0 h fun μ1 H1 p st1 J L1 S1 E1 hJ h1 => ⟨μ1, st1, p, L1, S1, E1, hJ, h1⟩
  refine thn (hi.run pins s σ H _ I hq) fun xv s1 h1 => thn h1 fun itv s2 h2 => ?_
  obtain ⟨it, fp, tn, J, H1, rfl, I2, T, tn0, hf, μ1, st1, p, L1, S1, E1, hJ, h1⟩ := h2
  refine ⟨I2.nolimit, ?_⟩
  obtain ⟨ps, hP, htr, ha⟩ := S1.tabs _ hmT
  have hP' : s2.heap.get? P = some { cls := .none, data := .fields ps } := I2.hok P _ hP
  have cd : PySem.W.CodeHd s2.heap c P := TB.code.keeps I2.bk
  obtain ⟨bm, ob, e1, e2, e3, e4, e5, e6, e7, e8⟩ := TB.bm
  -- behind the code object
  have cont : ∀ (code : Value) (s4 : Shared) (H2 : Hp), Inv X pins σ H2 s4 → LamX.ExtN H1 H2 → LamX.Tabs g.T H2 → tn 0 s4.heap → (∀ b ∈ fp, FpOk X pins H2 b) →
      wpAny (model X.prog X.w) X.A (builtinsFor X.env.globals X.env.builtins) (fun bi s₄ =>
        ∀ h', h'.Ns s₄.heap.objs.size (fun y => if y = ".0" then some (.ref it) else none) → Heap.SameBut s₄.heap.objs.size (s₄.heap.push { cls := .type "frame", data := .dict #[] }) h' →
          Q (.ref h'.objs.size) { s₄ with
            gens := s₄.gens.push (.fresh (.compStart (.GeneratorExp elt [⟨tg, iter, ifs, 0⟩] scope pos) 0 (.ref it) .none (genEnv scope (cloFrom X.env.cells scope.names []) s₄.heap.objs.size code bi X.env))),
            toks := s₄.toks + 1 + 1 + 1,
            heap := h'.push { cls := .type "generator", data := .fields #[.int s₄.gens.size 0, .str "<genexpr>" (s₄.toks + 1), .str (X.env.qual ++ "<genexpr>") (s₄.toks + 1 + 1)] } }) X.xe s4 := by
    intro code s4 H2 I4 eN T2 tn4 hf4
    obtain ⟨L2', S2⟩ := ext_le S1 eN T2
    refine wpAny_builtinsFor (m := X.mg) (by rw [I4.ok.glob]; exact I4.mod.glob.keeps I4.bk) e1 e2 (I4.bk _ _ e5) e6 e7 e8 ?_
    intro h' hn' hs'
    have h1 := h1 _ _ L2' S2
    have h1 : (match (if p.1.length ≤ 16777216 then lcD gt ft fe p.2 p.1 (wipeE env (own.map (·.2))) st1 else R.bad) with
      | .ok outs st2 => ∀ u sc ex s', Inv X pins σ H2 sc → ExOk X pins ex → GMk X.prog X.w (j + 1) X.stack H2 sc ex (fun j x => ∃ d μ H, outs[j]? = some d ∧ Rep g μ H d x) (fun ys H' => ∃ μ', Le μ1 H2 μ' H' ∧ RelS g μ' H' st2 ∧ Reps g μ' H' outs ys) u s' → Q u s'
      | _ => False) := h1
    split at h1
    · rename_i outs st2 hth
      split at hth
      · rename_i hl
        refine h1 _ s4 fp _ I4 (fun b hb => ⟨(hf4 b hb).2.2.2.1, (hf4 b hb).2.1, (hf4 b hb).2.2.2.2.1, (hf4 b hb).2.2.2.2.2⟩) ?_
        have hsz : h'.objs.size = s4.heap.objs.size + 1 := by rw [hs'.1, Heap.size_push]
        have keep' : ∀ b o, s4.heap.get? b = some o → h'.get? b = some o := fun b o e => hs'.extBut b o (Nat.ne_of_lt (Heap.lt_size e)) (Heap.get?_push_of_some _ e)
        have main : ∀ (go : Obj) (nm qn : Value), go.cls = .type "generator" → go.data = .fields #[.int s4.gens.size 0, nm, qn] → go.slots = #[] → (∀ h : Heap, (h.push go).get? h.objs.size = some go) →
            GMk X.prog X.w (j + 1) X.stack H2 s4 fp (fun j x => ∃ d μ H, outs[j]? = some d ∧ Rep g μ H d x) (fun ys H' => ∃ μ', Le μ1 H2 μ' H' ∧ RelS g μ' H' st2 ∧ Reps g μ' H' outs ys) (.ref h'.objs.size)
              { s4 with gens := s4.gens.push (.fresh (.compStart (.GeneratorExp elt [⟨tg, iter, ifs, 0⟩] scope pos) 0 (.ref it) .none (gxEnv X scope s4.heap.objs.size code))), toks := s4.toks + 1 + 1 + 1, heap := h'.push go } := by
          intro go nm qn g1 g2 g3 g4
          have hgen : ∀ h : Heap, h.get? h'.objs.size = some go → h.IsGen h'.objs.size s4.gens.size := fun h e => ⟨go, nm, qn, e, g1, g2, g3⟩
          have hgd : ∀ v, go.data ≠ .cell v := fun v q => by rw [g2] at q; cases q
          have kp1 : ∀ b o, s4.heap.get? b = some o → (h'.push go).get? b = some o := fun b o e => Heap.get?_push_of_some _ (keep' b o e)
          refine ⟨h'.objs.size, s4.gens.size, _, rfl, by omega, by show _ < (h'.push go).objs.size; rw [Heap.size_push]; omega, hgen _ (g4 h'), Array.getElem?_push_size .., rfl, AllBare.push I4.bare rfl, I4.nolimit.keeps kp1, kp1, ?_⟩
          intro A C s2 cp hrw hfr CO hit hSz hk2 hc0 hat hos hba
          have hk2 : ∀ b o, (h'.push go).get? b = some o → s2.heap.get? b = some o := hk2
          have kp2 : ∀ b o, s4.heap.get? b = some o → s2.heap.get? b = some o := fun b o e => hk2 b o (kp1 b o e)
          have hSz : ∀ S ∈ C.as, s4.heap.objs.size + 2 ≤ S := fun S hS => by
            have z : (h'.push go).objs.size ≤ S := hSz S hS
            rw [Heap.size_push, hsz] at z
            exact z
          have J0 : Inv (gxCx X A s4 H2 (gxEnv X scope s4.heap.objs.size code) fp [(h'.objs.size, go)]) [] (L2.wipe σ (own.map (·.2))) H2 s2 :=
            gx_inv I4 S O.nd hfr hrw.hd (Nat.le_refl _) (by omega) (by rw [hsz]; exact Nat.succ_ne_self _) kp2 hos hba ((hn'.push _).keeps hk2) (hk2 _ _ (g4 h')) hgd hf4 fun b hb => (T.obj _ _ tn4 b hb).imp fun o e => e.1
          have young : ∀ {S}, S ∈ C.as → H2 S = none ∧ S ≠ s4.heap.objs.size ∧ S ∉ frs X.stack ∧ s4.heap.objs.size ≤ S ∧ S ≠ h'.objs.size := fun {S} hS => by
            have z := hSz S hS
            refine ⟨I4.hok.fresh (by omega), fun e => by rw [e] at z; exact absurd z (by omega), fun e => ?_, by omega, fun e => by rw [e, hsz] at z; exact absurd z (by omega)⟩
            rcases List.mem_cons.mp (I4.stkSub _ e) with e | e
            · have h1 := I4.lt
              rw [← e] at h1
              have z2 : s4.heap.objs.size ≤ S := by omega
              exact Nat.lt_irrefl _ (Nat.lt_of_lt_of_le h1 z2)
            · exact I4.nofs (by omega) e
          have J1 : Inv (gxCx X A s4 H2 (gxEnv X scope s4.heap.objs.size code) fp [(h'.objs.size, go)]) cp (L2.wipe σ (own.map (·.2))) H2 s2 := J0.pins_of fun p hp => by
            obtain ⟨y1, y2, y3, _, _⟩ := young (mem_as CO hc0 hp)
            exact ⟨hat p hp, y1, y2, y3, CO.nc _ _ hc0 p hp⟩
          have hAp : Ap (gxCx X A s4 H2 (gxEnv X scope s4.heap.objs.size code) fp [(h'.objs.size, go)]) C := fun S hS => by
            obtain ⟨y1, y2, y3, y4, y5⟩ := young hS
            refine ⟨y4, y2, fun x c e z => ?_, fun p hp z => ?_⟩
            · obtain ⟨v, ho⟩ := J0.cell x c e
              obtain ⟨o, q1, _⟩ := id ho
              rcases cloFrom_mem (PySem.mem_of_lookup (show (cloFrom X.env.cells scope.names []).lookup x = some c from e)) with hm | ⟨h1, h2⟩
              · cases hm
              · obtain ⟨c1, hc1⟩ := hfree _ h1 rfl
                have hc1 : X.env.cells.lookup x = some c1 := hc1
                have e2 : c = c1 := by rw [h2, hc1] <;> rfl
                obtain ⟨v', o', q2, _⟩ := I4.cell x c1 hc1
                have := Heap.lt_size q2
                rw [← e2, z] at this
                exact absurd (Nat.lt_of_lt_of_le this y4) (Nat.lt_irrefl _)
            · have hp : p ∈ [(h'.objs.size, go)] := hp
              rw [List.mem_singleton.mp hp] at z
              exact y5 z.symm
          have hfpC : ∀ b ∈ fp, b ∉ C.as := fun b hb hS => by
            obtain ⟨o, e, _⟩ := T.obj _ _ tn4 b hb
            have := Heap.lt_size e
            have z := hSz b hS
            have z2 : s4.heap.objs.size ≤ b := by omega
            exact Nat.lt_irrefl _ (Nat.lt_of_lt_of_le this z2)
          refine seg_imp (R := GxR (gxCx X A s4 H2 (gxEnv X scope s4.heap.objs.size code) fp [(h'.objs.size, go)]) g C μ1 H2 outs st2) (Y := GxY (gxCx X A s4 H2 (gxEnv X scope s4.heap.objs.size code) fp [(h'.objs.size, go)]) C) (fun n s₀ r s1 hR => ?_) (fun n s₀ v s1 kap kap' hkk hY => ?_) sizeLine ?_
          · obtain ⟨er, ys, cp', σ', H', μ', hn, hc, I', L', S', r'⟩ := hR
            exact .inl ⟨.inr er, H', ys, cp', I'.os, I'.bare, I'.base, I'.hok, fun S hS => (of_as CO hc hS).elim fun o ho => (I'.pin _ (List.mem_append_right _ ho)).2.1, hc, fun p hp => (I'.pin p (List.mem_append_right _ hp)).1, hn, μ', L', S', r'⟩
          · obtain ⟨ys, x, cp', ip, σ', H', hn, rv, hitem, hc, I', hk⟩ := hY
            exact ⟨I'.os, I'.bare, I'.nolimit, hgen _ (I'.pin (h'.objs.size, go) (List.mem_append_left _ (List.mem_singleton.mpr rfl))).1, ys, x, cp', hn, rv, hitem, hc, fun p hp => (I'.pin p (List.mem_append_right _ (List.mem_append_left _ hp))).1, fun s' cq z hc' hat' => hkk _ _ (hk s' cq z hc' hat')⟩
          · have hok := O.gx (s := s4) (H := H2) (env := gxEnv X scope s4.heap.objs.size code) (fp := fp) (pn := [(h'.objs.size, go)]) hrw
            have tn2 : tn 0 s2.heap := T.keep _ _ _ tn4 fun b _ o e => kp2 b o e
            refine gx_start T tn2 (gx_loop (X := gxCx X A s4 H2 (gxEnv X scope s4.heap.objs.size code) fp [(h'.objs.size, go)]) (g := g) (C := C) over_comp (fun _ _ z => z) rfl S.co CO hAp hfpC T (hg A s4 H2 _ code fp _ hok) (ht A s4 H2 _ code fp _ hok) (he A s4 H2 _ code fp _ hok) hv hl (fun j d x μ H e r => hit j x ⟨d, μ, H, e, r⟩)
              p.1.length 0 sizeLine s2 s2 [] [] cp _ H2 μ1 st1 (by simp) (Nat.zero_le _) (by simp) (by simp) hc0 J1 (fun b hb => ?_) tn2 Le.refl S2 ((E1.le L2').wipe _) (hJ.le L2'.toLw) rfl ⟨outs, by rw [List.drop_zero]; exact hth, rfl⟩)
            obtain ⟨f1, f2, f3, f4, f5, f6⟩ := hf4 b hb
            obtain ⟨o, eo, _⟩ := T.obj _ _ tn4 b hb
            have hlt := Heap.lt_size eo
            refine ⟨f1, fun z => ?_, fun z => ?_, .inl hb, fun x c e z => ?_, fun q hq z => ?_⟩
            · have z : b = s4.heap.objs.size := z
              rw [z] at hlt
              exact Nat.lt_irrefl _ hlt
            · rcases List.mem_cons.mp (I4.stkSub _ z) with e | e
              · exact f2 e
              · exact f3 e
            · rcases cloFrom_mem (PySem.mem_of_lookup (show (cloFrom X.env.cells scope.names []).lookup x = some c from e)) with hm | ⟨h1, h2⟩
              · cases hm
              · obtain ⟨c1, hc1⟩ := hfree _ h1 rfl
                have hc1 : X.env.cells.lookup x = some c1 := hc1
                have e2 : c = c1 := by rw [h2, hc1] <;> rfl
                exact f5 x c1 hc1 (by rw [← e2]; exact z)
            · have hq : q ∈ [(h'.objs.size, go)] ++ cp := hq
              rcases List.mem_append.mp hq with hq | hq
              · rw [List.mem_singleton.mp hq] at z
                have z : h'.objs.size = b := z
                rw [← z, hsz] at hlt
                exact absurd hlt (Nat.not_lt.mpr (Nat.le_succ _))
              · exact hfpC b hb (by rw [← z]; exact mem_as CO hc0 hq)
        exact main _ _ _ rfl rfl rfl fun h => Heap.get?_push_size _ rfl
      · cases hth
    · exact h1.elim
  cases hc : codeAmong pos ps.toList with
  | none =>
    refine wpAny_genexprCodeX hcode (cd.code hP' htr) (cd.tab hP') hc fun c' h3 tk hx hge hlt hco' hrec htab' _ => ?_
    obtain ⟨c2, oc, vs, t, e9, hoc, hd, hv9⟩ := hrec
    cases e9
    have nC : H1 c' = none := I2.hok.fresh hge
    have I3 := LamX.inv_table (t' := tk) (more := #[rawInt pos.line, rawInt pos.col, .ref c']) (h' := h3) I2 hP (fun b o hb e => hx b o hb e) htab'.2 hge ⟨oc, vs, t, hoc, hd, hv9⟩
    have hE : LamX.ExtN H1 (upd (upd H1 P (.tbl (ps ++ #[rawInt pos.line, rawInt pos.col, .ref c']))) c' (LamX.CodeO c' (X.env.qual ++ "<genexpr>"))) := fun b o e n => by
      rw [upd_ne (ne_of_none e nC), upd_ne (fun z => n ps (Option.some.inj (e.symm.trans (by rw [z]; exact hP))))]
      exact e
    have eL : (ps ++ #[rawInt pos.line, rawInt pos.col, .ref c']).toList = ps.toList ++ [rawInt pos.line, rawInt pos.col, .ref c'] := by simp
    have nfp : ∀ b ∈ fp, b ≠ P ∧ b ≠ c' := fun b hb => by
      obtain ⟨o, eo, _⟩ := T.obj _ _ tn0 b hb
      refine ⟨fun z => ?_, fun z => ?_⟩
      · have := (hf b hb).1
        rw [z, hP] at this
        cases this
      · have := Heap.lt_size eo
        rw [z] at this
        exact Nat.lt_irrefl _ (Nat.lt_of_lt_of_le this hge)
    refine cont _ _ _ I3 hE (fun p hp => ?_) (T.keep _ _ _ tn0 fun b hb o e => hx b o (nfp b hb).1 e) fun b hb => ⟨by rw [upd_ne (nfp b hb).2, upd_ne (nfp b hb).1]; exact (hf b hb).1, (hf b hb).2⟩
    by_cases hb : p.1 = P
    · rw [hu p hp hb, hb]
      refine ⟨_, by rw [upd_ne (ne_of_none hP nC), upd_same], by rw [eL]; exact PySem.TriplesOk_snoc _ _ _ _ htr, fun p' cv hcv => ?_⟩
      rw [eL] at hcv
      rcases LamX.among_app _ htr hcv with z | z
      · obtain ⟨c0, q1, q2⟩ := ha p' cv z
        exact ⟨c0, q1, hE _ _ q2 LamX.codeO_ne⟩
      · exact ⟨c', z, upd_same⟩
    · obtain ⟨ps', a1, a2, a3⟩ := S1.tabs p hp
      refine ⟨ps', by rw [upd_ne (ne_of_none a1 nC), upd_ne hb]; exact a1, a2, fun p' cv hcv => ?_⟩
      obtain ⟨c0, q1, q2⟩ := a3 p' cv hcv
      exact ⟨c0, q1, hE _ _ q2 LamX.codeO_ne⟩
  | some cv =>
    refine wpAny_genexprCode_hit hcode (cd.code hP' htr) hc ?_
    exact cont cv s2 H1 I2 (LamX.ExtN.refl H1) S1.tabs tn0 hf
end
end G

namespace G
open PySem L2 PySem.Spec PyProof.Rows GenW
/-! ### a generator's items into a list -/
def lcon (S : Addr) : Con := ⟨[S], fun ys cp => ∃ acc c, cp = [(S, lstObj acc c)] ∧ Vals ys acc.toList, fun _ _ => True⟩
theorem lcon_ok (S : Addr) : (lcon S).Ok := ⟨fun ys cp ⟨acc, c, e, _⟩ => by rw [e]; rfl, fun ys cp ⟨acc, c, e, _⟩ p hp v q => by
  rw [e] at hp
  rw [List.mem_singleton.mp hp] at q
  cases q⟩
theorem slp_push {S : Addr} {v : Value} {s : Shared} {acc : Array Value} {c : Nat} {gens : Array GenState} (hS : s.heap.get? S = some (lstObj acc c)) (hG : AllBare gens) :
    Slp (lcon S) s { s with gens := gens, heap := s.heap.update S (Obj.mapSeq (·.push v)) } ∧ ∃ c', (s.heap.update S (Obj.mapSeq (·.push v))).get? S = some (lstObj (acc.push v) c') :=
  ⟨⟨rfl, hG, fun b o hb e => (Heap.get?_update_other _ _ (fun z => hb (by rw [← z]; exact List.mem_singleton.mpr rfl))).trans e⟩, _, Heap.get?_update_self _ hS rfl⟩
theorem drainG {P : Program} {w : World} {outer : List PySem.Env} {H : Hp} {sc : Shared} {ex : List Addr} {Q : List V → Hp → Prop} {A : Around} {R : Result → Shared → Prop} {S a : Addr} {g : Nat} {res : Value}
    (hh : A.handled = none) (hd : A.depth < recursionLimit) (hSa : S ≠ a) (hSc : S ≠ cStatics)
    (hend : ∀ s' acc c H' ys, s'.heap.get? S = some (lstObj acc c) → Vals ys acc.toList → ys.length ≤ sizeLine → s'.os = sc.os → AllBare s'.gens → Un (frs outer) ex H H' sc.heap s'.heap → HOk P w H' s'.heap → H' S = none → Q ys H' → R (.ok (.ret res)) s') :
    ∀ (m : Nat) (s : Shared), s.heap.IsGen a g → s.heap.NoLimit →
      (∃ gs, s.gens[g]? = some gs ∧ gs.Goes (model P w) A.in1.in1 (GEnd' P w outer H sc ex (lcon S) Q) (GPub sc (lcon S) a g) m (.send .none) (s.setGen g .running)) →
      codeAny (model P w) A (.builtin "list.extend.loop" ⟨[.ref S, .ref a, res], []⟩) R s := by
  have goes : ∀ {gs : GenState} {B : Around} {n : Nat} {r : Resume} {s : Shared}, gs.Goes (model P w) B (GEnd' P w outer H sc ex (lcon S) Q) (GPub sc (lcon S) a g) n r s →
      gs.Goes (model P w) B (fun n s₀ r s1 => ((r = .ok (.ret .none) ∨ r = .ok .next) ∧ GFin P w outer H sc ex (lcon S) Q n s1) ∨ ∃ e, r = .error e ∧ False) (GPub sc (lcon S) a g) n r s := fun h => h
  have ends : ∀ {n : Nat} {s1 : Shared}, GFin P w outer H sc ex (lcon S) Q n s1 → ∀ h', (∀ b o, s1.heap.get? b = some o → h'.get? b = some o) → R (.ok (.ret res)) { s1.setGen g .finished with heap := h' } := fun {n s1} hp h' hk => by
    obtain ⟨H', ys, cp, os1, hb1, un, hok, hSn, ⟨acc, c, ecp, hv⟩, hpin, hn, hQ⟩ := hp
    subst ecp
    exact hend _ acc c H' ys (hk _ _ (hpin _ List.mem_cons_self)) hv (by omega) os1 (allBare_setGen hb1 rfl) (un.trans (Un.kept hk)) (hok.kept hk) (hSn S List.mem_cons_self) hQ
  intro m
  induction m with
  | zero =>
    intro s hg hl ⟨gs, hgs, hgo⟩
    refine codeAny_builtin F.entry_extend_loop ?_
    rw [Around.under_plainId F.plain_extend_loop _]
    show wpAny _ A.in1 (pyNext (.ref a) >>= _) _ _ s
    refine wpAny_bind (next_genG (A := A.in1) hh hl hd hg hgs (goes hgo) (fun v s₁ gs' hbare hv => ?_) (fun s₁ hp h' hk => ?_) fun e s₁ he => he.elim)
    · obtain ⟨_, hb1, _, _, ys, x, cp, hn, rv, _, ⟨acc, c, ecp, hv⟩, hpin, hk⟩ := hv
      subst ecp
      obtain ⟨z1, c', z2⟩ := slp_push (v := v) (hpin _ List.mem_cons_self) hb1
      exact False.elim (hk _ [(S, lstObj (acc.push v) c')] z1 ⟨_, _, rfl, by rw [Array.toList_push]; exact hv.append (.cons rv .nil)⟩ fun p hp => by rw [List.mem_singleton.mp hp]; exact z2)
    · exact wpAny_pure (ends hp h' hk)
  | succ m ih =>
    intro s hg hl ⟨gs, hgs, hgo⟩
    have hgl : g < s.gens.size := (Array.getElem?_eq_some_iff.mp hgs).1
    refine codeAny_builtin F.entry_extend_loop ?_
    rw [Around.under_plainId F.plain_extend_loop _]
    show wpAny _ A.in1 (pyNext (.ref a) >>= _) _ _ s
    refine wpAny_bind (wpAny_gsz (n := g + 1) hgl (next_genG (A := A.in1) hh hl hd hg hgs (goes hgo) (fun v s₁ gs' hbare hv => ?_) (fun s₁ hp h' hk => ?_) fun e s₁ he => he.elim))
    · intro hsz
      obtain ⟨os1, hb1, hl1, hg1, ys, x, cp, hn, rv, _, ⟨acc, c, ecp, hv⟩, hpin, hk⟩ := hv
      subst ecp
      have hS1 : s₁.heap.get? S = some (lstObj acc c) := hpin _ List.mem_cons_self
      have hasz : acc.size = ys.length := by
        have := hv.length
        have e2 : acc.toList.length = acc.size := by simp
        omega
      have hasz' : acc.size < sizeLine := by omega
      show wpAny _ A.in1 (updateSeq S (·.push v) >>= _) _ _ _
      refine wpAny_bind ?_
      refine wpAny_updateSeq hS1 rfl (wpAny_pure ⟨plainId_quiet F.plain_extend_loop _, ?_⟩) (Nat.le_of_lt hasz') (by show (acc.push v).size ≤ sizeLine + 1; rw [Array.size_push]; omega)
      have keep3 : ∀ b o, b ≠ S → s₁.heap.get? b = some o → (s₁.heap.update S (Obj.mapSeq (·.push v))).get? b = some o := fun b o hbS e => (Heap.get?_update_other _ _ (Ne.symm hbS)).trans e
      have hsz1 : g < s₁.gens.size := by
        have q : (s₁.setGen g gs').gens.size = s₁.gens.size := setGen_size _ _ _
        have hsz' : g + 1 ≤ (s₁.setGen g gs').gens.size := hsz
        omega
      refine ih { s₁.setGen g gs' with heap := s₁.heap.update S (Obj.mapSeq (·.push v)) } ?_ ?_ ⟨gs', setGen_at hsz1, ?_⟩
      · obtain ⟨o, nm, qn, ho, r⟩ := hg1
        exact ⟨o, nm, qn, keep3 a o (Ne.symm hSa) ho, r⟩
      · obtain ⟨mc, hns, hnn⟩ := hl1
        exact ⟨mc, hns.at' fun o e => keep3 _ o (Ne.symm hSc) e, hnn⟩
      · obtain ⟨z1, c', z2⟩ := slp_push (v := v) hS1 (allBare_setGen (s := s₁.setGen g gs') (allBare_setGen hb1 hbare) (x := .running) (g := g) rfl)
        exact hk _ [(S, lstObj (acc.push v) c')] z1 ⟨_, _, rfl, by rw [Array.toList_push]; exact hv.append (.cons rv .nil)⟩ fun p hp => by rw [List.mem_singleton.mp hp]; exact z2
    · intro hsz
      exact wpAny_pure (ends hp h' hk)
/-- all of it -/
theorem collectG {P : Program} {w : World} {outer : List PySem.Env} {H : Hp} {sc s : Shared} {ex : List Addr} {It : Nat → V → Prop} {Q : List V → Hp → Prop} {A : Around} {k : Nat} {u : Value} {Q' : List Value → Shared → Prop} {E : Value → Shared → Prop}
    (hr : Room (k + 3) A) (hfr : A.frames = some outer) (h : GMk P w k outer H sc ex It Q u s)
    (hQ : ∀ s' us H' ys, Vals ys us → ys.length ≤ sizeLine → s'.os = sc.os → AllBare s'.gens → Un (frs outer) ex H H' sc.heap s'.heap → HOk P w H' s'.heap → Q ys H' → Q' us s') :
    wpAny (model P w) A (collect u) Q' E s := by
  obtain ⟨a, g, c, rfl, ha1, ha2, hg, hgs, hos, hb, hl, hkp, wake⟩ := h
  have hSa : s.heap.objs.size ≠ a := Nat.ne_of_gt ha2
  have hcl : cStatics < s.heap.objs.size := let ⟨_, hn, _⟩ := hl; hn.lt
  have hSc : s.heap.objs.size ≠ cStatics := Nat.ne_of_gt hcl
  unfold collect
  refine wpAny_bind (wpAny_runValue (codeAny_builtin F.entry_proto_collect ?_))
  rw [Around.under_plainId F.plain_proto_collect _]
  show wpAny _ A.in1 (newList [] >>= fun l => again (.builtin "list.__iadd__" ⟨[l, .ref a], []⟩)) _ _ s
  refine wpAny_bind (wpAny_newObj_type ?_)
  refine wpAny_pure ⟨plainId_quiet F.plain_list_iadd _, codeAny_builtin F.entry_list_iadd ?_⟩
  rw [Around.under_plainId F.plain_list_iadd _]
  have k1 : ∀ b o, s.heap.get? b = some o → (s.heap.push { cls := .type "list", data := .seq ([] : List Value).toArray }).get? b = some o := fun b o e => Heap.get?_push_of_some _ e
  have hS : (s.heap.push { cls := .type "list", data := .seq ([] : List Value).toArray }).get? s.heap.objs.size = some { cls := .type "list", data := .seq ([] : List Value).toArray } := Heap.get?_push_size _ rfl
  have h1 : Builtin.List.listSameRef (.ref s.heap.objs.size) (.ref a) = false := by simp [Builtin.List.listSameRef, hSa]
  have h2 : (Value.type "generator" == Value.type "list") = false := by decide
  have h3 : (Value.type "generator" == Value.type "tuple") = false := by decide
  show wpAny _ A.in1 (Builtin.List.listExtendWith (.ref s.heap.objs.size) (.ref a) (.ref s.heap.objs.size)) _ _ _
  unfold Builtin.List.listExtendWith
  have gty : ∀ {h : Heap}, (∀ b o, s.heap.get? b = some o → h.get? b = some o) → h.IsGen a g := fun {h} q => hg.keeps q
  refine wpAny_bind (wpAny_typeOf (Heap.IsGen.typeIs (s := { s with heap := _ }) (gty k1)) ?_)
  simp only [h1, h2, h3, Bool.or_false, Bool.false_eq_true, if_false]
  refine wpAny_bind (wpAny_pyIter_gen (s := { s with heap := _ }) (gty k1) ?_)
  refine wpAny_bind (wpAny_holding ?_)
  unfold Builtin.List.listLengthHint
  refine wpAny_bind (wpAny_specialOf (Heap.IsGen.typeIs (s := { s with heap := _ }) (gty k1)) F.gen_no_len ?_)
  show wpAny _ A.in1 (specialOf (Value.ref a) (Str.ofString "__length_hint__") >>= _) _ _ _
  refine wpAny_bind (wpAny_specialOf (Heap.IsGen.typeIs (s := { s with heap := _ }) (gty k1)) F.gen_no_hint ?_)
  refine wpAny_pure ?_
  show wpAny _ A.in1 (rule "list.extend.makes-room" >>= fun _ => Builtin.List.listTouch (.ref s.heap.objs.size) >>= fun _ =>
    again (.builtin "list.extend.loop" ⟨[.ref s.heap.objs.size, .ref a, .ref s.heap.objs.size], []⟩)) _ _ _
  refine wpAny_bind (wpAny_rule ?_)
  refine wpAny_bind ?_
  show wpAny _ A.in1 (updateSeq s.heap.objs.size (·.push .none) >>= fun _ => updateSeq s.heap.objs.size (·.pop)) _ _ _
  have up : ∀ (h : Heap) (f : Obj → Obj), (∀ b o, s.heap.get? b = some o → h.get? b = some o) → ∀ b o, s.heap.get? b = some o → (h.update s.heap.objs.size f).get? b = some o := fun h f q b o e =>
    (Heap.get?_update_other _ _ (Ne.symm (Nat.ne_of_lt (Heap.lt_size e)))).trans (q b o e)
  refine wpAny_bind (wpAny_updateSeq hS rfl ?_)
  have hS3 := Heap.get?_update_self (Obj.mapSeq (·.push Value.none)) hS rfl
  refine wpAny_updateSeq (hz := by seq_fits) hS3 rfl ?_
  have hS4 := Heap.get?_update_self (Obj.mapSeq (·.pop)) hS3 rfl
  have k4 := up _ (Obj.mapSeq (·.pop)) (up _ (Obj.mapSeq (·.push Value.none)) k1)
  refine wpAny_pure ⟨plainId_quiet F.plain_extend_loop _, ?_⟩
  refine drainG (P := P) (w := w) (outer := outer) (H := H) (sc := sc) (ex := ex) (Q := Q) (A := A) (g := g) hr.hd (by have := hr.dp; omega) hSa hSc (fun s' acc c H' ys q1 q2 q3 q4 q5 q6 q7 q8 q9 => ?_) sizeLine _ (gty k4) (hl.keeps k4) ⟨_, hgs, rfl, ?_⟩
  · show wpAny _ A (load s.heap.objs.size >>= _) _ _ s'
    refine wpAny_bind (wpAny_load q1 ?_)
    exact wpAny_pure (hQ s' acc.toList H' ys q2 q3 q4 q5 q6 q7 q9)
  · refine wake _ (lcon s.heap.objs.size) _ [(s.heap.objs.size, lstObj #[] _)] ⟨hr.hd, ?_, ?_⟩ hfr (lcon_ok _) (fun _ _ _ => trivial) (fun S hS => by rw [List.mem_singleton.mp hS]; exact Nat.le_refl _) k4 ⟨#[], _, rfl, .nil⟩ (fun p hp => by rw [List.mem_singleton.mp hp]; exact hS4) hos (allBare_setGen (s := { s with heap := _ }) hb rfl)
    · have := hr.dp
      show A.depth + 3 * k + 5 < _
      omega
    · have := hr.un
      show A.units + 1 + 1 + 16 * k + 200 < _
      omega
end G

namespace G
open PySem L2 PySem.Spec PyProof.Rows GenW
/-! ### tuple(a generator expression) -/
theorem call_tupG {P : Program} {w : World} {outer : List PySem.Env} {H : Hp} {sc s : Shared} {ex : List Addr} {It : Nat → V → Prop} {Q : List V → Hp → Prop} {A : Around} {k : Nat} {u : Value} {Q' : Value → Shared → Prop} {E : Value → Shared → Prop}
    (hr : Room (k + 4) A) (hfr : A.frames = some outer) (h : GMk P w k outer H sc ex It Q u s)
    (hQ : ∀ (s' : Shared) us H' ys, Vals ys us → ys.length ≤ sizeLine → s'.os = sc.os → AllBare s'.gens → Un (frs outer) ex H H' sc.heap s'.heap → HOk P w H' s'.heap → Q ys H' → Q' (.ref s'.heap.objs.size) { s' with heap := s'.heap.push { cls := .type "tuple", data := .seq us.toArray } }) :
    wpAny (model P w) A (call (.type "tuple") [u]) Q' E s := by
  have hr2 : Room (k + 3) A.in1.in1 := ⟨hr.hd, by have := hr.dp; show A.depth + 3 * (k + 3) + 5 < _; omega, by have := hr.un; show A.units + 1 + 1 + 16 * (k + 3) + 200 < _; omega⟩
  have hfr2 : A.in1.in1.frames = some outer := hfr
  obtain ⟨a, g, c, rfl, hm⟩ := id h
  have hTI : s.TypeIs (.ref a) "generator" := Heap.IsGen.typeIs hm.2.2.1
  refine callType_codes (Q₁ := fun obj s₁ => s₁.TypeIs obj "tuple" ∧ Q' obj s₁) F.called_tuple (F.typeCall_tuple_1 _) F.entry_object_init ?_ fun obj s₁ h₁ => ?_
  · refine codeAny_of_tree ?_
    show wpAny _ A.in1.in1 (do checkBuiltinCall "tuple.__new__" ⟨[.type "tuple", .ref a], []⟩; again (.builtin "tuple.__new__" ⟨[.type "tuple", .ref a], []⟩)) _ _ s
    refine wpAny_bind (wpAny_of_eq (F.newCall_tuple_1 _) (wpAny_pure ⟨plainId_quiet F.plain_tuple_new _, codeAny_builtin F.entry_tuple_new ?_⟩))
    rw [Around.under_plainId F.plain_tuple_new _]
    have hsub := sub_tuple_self
    have hinit := init_tuple_lookup
    have hmh := madeHere_tuple
    wp_walk using wpAny_typeOf hTI, collectG hr2 hfr2 h
    intro s' us H' ys q1 q2 q3 q4 q5 q6 q7
    show wpAny _ _ (Builtin.Tuple.tupleExact us.toArray >>= fun v => ret v) _ _ _
    unfold Builtin.Tuple.tupleExact
    refine wpAny_bind (wpAny_newObj_type ?_ (by show us.toArray.size ≤ sizeLine; rw [List.size_toArray, ← q1.length]; exact q2))
    refine wpAny_pure ?_
    exact ⟨⟨_, Heap.get?_push_size _ rfl, rfl⟩, hQ s' us H' ys q1 q2 q3 q4 q5 q6 q7⟩
  · exact ⟨h₁.1, F.args_object_init_2 obj _, object_init_meets F.called_tuple.init.lookup F.called_tuple.made (by decide) P w A.in1 _ s₁ ⟨h₁.1, rfl, h₁.2⟩⟩
def dTupG (f : Env → Store → R Th) : DE := fun env st => (f env st).bind fun th st => (th st).b fun xs st => if xs.length ≤ 16777216 then .ok (.tup xs) st else .bad
section
variable {X : Cx} {g : GC} {W : WX} {k : Nat} {pos : Pos}
theorem pd_tupG {e : Expr} {f : Env → Store → R Th} {j : Nat} {p : Pos} (O : Ok X g W k) (F : PGx X g W j e f) (hj : j + 4 ≤ k) (hm : X.mg "tuple" = none) (hg : Gl X "tuple" := by rfl)
    (he : starEach [e] X.env = (false, eval e X.env) :: starEach [] X.env := by rfl) : PD X g W (.Call (.Name "tuple" p) [e] [] pos) (dTupG f) := by
  refine ⟨fun pins s σ H Q I ⟨μ, env, st, S, E, h⟩ => ?_⟩
  refine wpAny_Call_Name_kw (ld_blt I hg hm boot_tuple ?_)
  refine PyProof.Rows.callWith_type1 ?_ he rfl
  rw [he]
  show wpAny _ _ (spliced ((false, eval e X.env) :: backTo pos (starEach [] X.env))) _ _ s
  refine Calls.spliced_cons (F.run pins s σ H _ μ env st I S E ?_)
  have h : Post g W σ μ H ((f env st).bind fun th st => (th st).b fun xs st => if xs.length ≤ 16777216 then R.ok (D.tup xs) st else .bad) (VP g Q) := h
  generalize f env st = r at h ⊢
  cases r with
  | ex c st1 => exact h
  | bad => exact h
  | ok th st1 =>
    intro μ1 H1 L1 S1
    have h : Post g W σ μ H ((th st1).b fun xs st => if xs.length ≤ 16777216 then R.ok (D.tup xs) st else .bad) (VP g Q) := h
    cases et : th st1 with
    | ex c st2 => rw [et] at h; exact h.elim
    | bad => rw [et] at h; exact h.elim
    | ok outs st2 =>
      rw [et] at h
      have h : Post g W σ μ H (if outs.length ≤ 16777216 then R.ok (D.tup outs) st2 else .bad) (VP g Q) := h
      intro u sc ex s' I1 hex hG
      refine Calls.spliced_nil ?_
      refine call_tupG (O.room.mono hj) I1.ok.frames hG fun s2 us H' ys q1 q2 q3 q4 q5 q6 q7 => ?_
      obtain ⟨μ2, L2', S2, r2⟩ := q7
      have I2 : Inv X pins σ H' s2 := I1.call' (ch := ex) q3 q5 q6 q4 hex
      have hn : H' s2.heap.objs.size = none := I2.hok.fresh (Nat.le_refl _)
      have I3 : Inv X pins σ (upd H' s2.heap.objs.size (.tup ys)) { s2 with heap := s2.heap.push { cls := .type "tuple", data := .seq us.toArray } } :=
        I2.laid (t' := s2.toks) (fun b o e => Heap.get?_push_of_some _ e) (Nat.le_refl _) (show ObjOk X.prog X.w _ _ _ (.tup ys) from ⟨q2, us, q1, IsTup.new _ _⟩)
      split at h
      · refine ⟨.ref s2.heap.objs.size, _, I3, rfl, ?_⟩
        exact mkT_ok S2 r2 (Post.le (L1.trans L2') h) hn
      · exact h.elim
end
end G

namespace G
open PySem L2
/-! ### in, not in -/
def aIn (neg : Bool) (x y : D) (st : Store) : R D := match seqA st y with
  | some ds => if x.isSc = true ∧ ds.all D.isSc = true then .ok (.bl (if neg = true then !(ds.any fun d => D.eqv d x) else ds.any fun d => D.eqv d x)) st else .bad
  | none => .bad
section
variable {X : Cx} {g : GC} {W : WX} {k : Nat} {pos : Pos} {μ : Mp} {H : Hp}
theorem flat_ok {d : D} {v : V} (r : Rep g μ H d v) (h : d.isSc = true) : flatV v = true := by
  cases d <;> first | (cases h; done) | (cases r; rfl)
theorem eqv_ok {d e : D} {v u : V} (r : Rep g μ H d v) (q : Rep g μ H e u) (h : d.isSc = true) (h' : e.isSc = true) : eqV v u = D.eqv d e := by
  cases d <;> first | (cases h; done) | (cases e <;> first | (cases h'; done) | (cases r; cases q; first | rfl | simp [eqV, D.eqv]))
theorem flats_ok : ∀ {ds : List D} {vs : List V}, Reps g μ H ds vs → ds.all D.isSc = true → vs.all flatV = true
  | [], vs, r, _ => by rw [show vs = [] from r] <;> rfl
  | d :: ds, vs, r, h => by
    obtain ⟨v, vr, e, r1, r2⟩ := r
    subst e
    rw [List.all_cons, Bool.and_eq_true] at h ⊢
    exact ⟨flat_ok r1 h.1, flats_ok r2 h.2⟩
theorem in_ok {x : D} {v : V} (q : Rep g μ H x v) (hx : x.isSc = true) : ∀ {ds : List D} {vs : List V}, Reps g μ H ds vs → ds.all D.isSc = true → inV v vs = ds.any fun d => D.eqv d x
  | [], vs, r, _ => by rw [show vs = [] from r] <;> rfl
  | d :: ds, vs, r, h => by
    obtain ⟨u, vr, e, r1, r2⟩ := r
    subst e
    rw [List.all_cons, Bool.and_eq_true] at h
    have ih := in_ok q hx r2 h.2
    unfold inV at ih ⊢
    rw [List.any_cons, List.any_cons, ih, eqv_ok r1 q h.1 hx]
theorem oIn (O : Ok X g W k) : OpD X g W (compareOp .In) (aIn false) := by
  refine ⟨_, op_in_seq, fun σ μ H st x y v u Q S rx ry h => ?_⟩
  unfold aIn at h
  split at h
  · rename_i ds e
    obtain ⟨a, vs, e1, hs, r⟩ := seqA_ok S ry e
    split at h
    · rename_i hh
      rw [O.hK]
      refine ⟨a, vs, e1, hs, flat_ok rx hh.1, flats_ok r hh.2, ?_⟩
      rw [if_neg Bool.false_ne_true] at h
      rw [if_neg Bool.false_ne_true, in_ok rx hh.1 r hh.2]
      exact h.here S _ rfl
    · exact h.elim
  · exact h.elim
theorem oNotIn (O : Ok X g W k) : OpD X g W (compareOp .NotIn) (aIn true) := by
  refine ⟨_, op_notIn_seq, fun σ μ H st x y v u Q S rx ry h => ?_⟩
  unfold aIn at h
  split at h
  · rename_i ds e
    obtain ⟨a, vs, e1, hs, r⟩ := seqA_ok S ry e
    split at h
    · rename_i hh
      rw [O.hK]
      refine ⟨a, vs, e1, hs, flat_ok rx hh.1, flats_ok r hh.2, ?_⟩
      rw [if_pos rfl] at h
      rw [if_pos rfl, in_ok rx hh.1 r hh.2]
      exact h.here S _ rfl
    · exact h.elim
  · exact h.elim
/-! ### list.append -/
def dAppend (fo fe : DE) : DE := fun env st => (fo env st).bind fun o st => match o with
  | .ref n => (match lstAt st n with
    | some _ => (fe env st).bind fun d st => (match lstAt st n with
      | some ds => if ds.length < 16777216 then .ok .non (st.set n (.lst (ds ++ [d]))) else .bad
      | none => .bad)
    | none => .bad)
  | _ => .bad
theorem pd_append {o e : Expr} {fo fe : DE} {apos cpos : Pos} (O : Ok X g W k) (ho : PD X g W o fo) (he : PD X g W e fe) (hbase : attributeBase o "append" X.env (eval o X.env) = eval o X.env := by rfl)
    (hfew : ((backTo cpos (starEach [e] X.env)).all (fun x => !x.1) && (backToKw cpos (keywordEach [] X.env)).all (fun x => x.1.isSome)
      && decide ([e].length + ([] : List Keyword).length + (if ([] : List Keyword).isEmpty then 0 else 1) < 30)) = true := by rfl)
    (hline : (apos.endLine == cpos.line) = true := by rfl) (hs : starEach [e] X.env = (false, eval e X.env) :: starEach [] X.env := by rfl) :
    PD X g W (.Call (.Attribute o "append" apos) [e] [] cpos) (dAppend fo fe) :=
  PE.imp (pe_bm PySem.F.plainAttrs_list PySem.F.slot_list_append PySem.F.type_list_append mt_append ho (L2.pa_cons he L2.pa_nil hs) hbase hfew hline hs rfl) fun σ H Q ⟨μ, env, st, S, E, h⟩ => by
    refine bindE S E h fun μ1 H1 od st1 ov L1 S1 E1 r1 h1 => ?_
    cases od with
    | ref n =>
      have h1 : Post g W σ μ1 H1 (match lstAt st1 n with
        | some _ => (fe env st1).bind fun d st => (match lstAt st n with
          | some ds => if ds.length < 16777216 then R.ok D.non (st.set n (.lst (ds ++ [d]))) else .bad
          | none => .bad)
        | none => .bad) (VP g Q) := h1
      split at h1
      · rename_i ds0 e0
        obtain ⟨a, ea, ha⟩ := r1
        obtain ⟨vs0, q0, _⟩ := S1.at_ n a _ ha (lstAt_eq e0)
        subst ea
        refine ⟨.inl ⟨rfl, vs0, .inl (.inl q0)⟩, ?_⟩
        refine bindE S1 E1 h1 fun μ2 H2 d st2 v L2' S2 E2 r2 h2 => ?_
        split at h2
        · rename_i ds e2
          split at h2
          · rename_i hl
            have ha2 := L2'.pre n a ha
            obtain ⟨vs, q2, r3⟩ := S2.at_ n a _ ha2 (lstAt_eq e2)
            have hm := List.mem_of_getElem? ha2
            have L5 := le_set (o := .lst (vs ++ [v])) S2 hm
            refine ⟨a, vs, v, rfl, rfl, q2, by rw [← r3.len, sizeLine_eq]; exact hl, ?_⟩
            exact h2 μ2 _ L5 (S2.set ha2 ⟨_, upd_same, (r3.append (show Reps g μ2 H2 [d] [v] from ⟨v, [], rfl, r2, rfl⟩)).le L5⟩) _ rfl
          · exact h2.elim
        · exact h2.elim
      · exact h1.elim
    | _ => exact h1.elim
end
end G

namespace G
open PySem L2
section
variable {P : Program} {w : World} {mg : Str → Option Value} {base h : Heap} {g : GC} {K : PySem.W.Frag}
/-- a def that makes generator expressions -/
theorem fn_G {x : Str} {st : Stmt} {N ps : List Str} {j n : Nat} {fb : DS} (F : DefL g mg x st ps) (B : LamX.TabB base mg (g.cp x).1 (g.cp x).2) (mT : ((g.cp x).2, (x ++ ".<locals>.") ++ "<genexpr>") ∈ g.T) (hu : ∀ p ∈ g.T, p.1 = (g.cp x).2 → p.2 = (x ++ ".<locals>.") ++ "<genexpr>") (S : FnScope N ps (defScope st)) (hn : ps.length = n)
    (body : ∀ (fa : Addr) (cdv : Value) (A : Around) (outer : List PySem.Env) (s : Shared) (H : Hp) (E : XK), Ok (bodyCx P w g.K mg base N x (defScope st) fa cdv A outer s H E) g (WB E) j → Lg (bodyCx P w g.K mg base N x (defScope st) fa cdv A outer s H E) g → PSsD (bodyCx P w g.K mg base N x (defScope st) fa cdv A outer s H E) g (WB E) (defBody st) fb) :
    FnD P w mg base g (j + 1) x n (runB N.length fb) := by
  obtain ⟨fa, oc, kV, doc, pm, ct, od, an, osl, lk, hcd, kp, hm, hb⟩ := F
  refine ⟨fa, _, ps, hm, kp, hb, fn_of lk hcd S (fun vs H Q E h => h.1.trans hn.symm) fun A outer s H vs Q E hr h => ⟨_, body fa (.ref (g.cp x).1) A outer s H E ⟨rfl, takes_of rfl rfl rfl rfl, passes_of rfl, rfl, S.nd, hr⟩ ⟨_, _, B, rfl, mT, hu⟩, ?_⟩⟩
  obtain ⟨hl, μ, st0, ds, S0, r, q⟩ := h
  refine ⟨μ, _, st0, S0, reps_env r N.length, ?_⟩
  unfold runB at q
  generalize fb (ds.map some ++ List.replicate (N.length - ds.length) none) st0 = rr at q ⊢
  cases rr with
  | nx env st1 => exact fun μ' H' σ' L S' _ => q μ' H' L S' _ rfl
  | rt d st1 => exact fun μ' H' v L S' rv => q μ' H' L S' v rv
  | bk env st1 => exact q.elim
  | ct env st1 => exact q.elim
  | ex c env st1 => exact fun μ' H' σ' L S' _ => q μ' H' L S'
  | bad => exact q.elim
end
/-- the table of a def of the view -/
theorem tab_at {p : Program} {loose : List Str} {mean : ExcName → Option Value} {mg mb : Str → Option Value} {h : Heap} {K : PySem.W.Frag} {x : Str} {c P : Addr} (T : PyProof.Rows.Top p loose mean mg mb h) (X : K.In h) (hr : ((PyProof.Rows.recsOf p).find? fun e => e.name == x).isSome = true) (ht : PySem.W.tabIn K x = some (c, P)) : PySem.W.CodeHd h c P ∧ h.get? P = some { cls := .none, data := .fields #[] } := by
  obtain ⟨d, hd⟩ := Option.isSome_iff_exists.mp hr
  exact PySem.W.tab_of T X hd ht
open PySem.W in
/-- the walk's end, the top in hand -/
theorem walk_top {l : OpenLaw} {n k : Nat} {q : Program} {loose : List Str} {XP : (Str → Option Value) → Heap → Prop} {YP : World → Heap → Prop} {d : DefRec} {K : Params → Frag} {CX : World → CXT} {x : Str}
    (h1 : l.most = some n) (h2 : n ≤ sizeLine) (h3 : d.params.defaults = []) (h4 : Room k callerA) (h5 : ∀ (w : World) (h : Heap), YP w h → (K w.params).In h)
    (F : ∀ (w : World) (s₀ : Shared) (mg mb : Str → Option Value) (fa : Addr) (h : Heap), YP w h → (K w.params).In h → Ground q loose [] XP w s₀ mg mb h → mg d.name = some (.ref fa) → LamX.LawAtS l w (K w.params) (CX w) k n x mg fa h)
    (h6 : ∀ (w : World) (H : Hp) (s : Shared) (e : Value) (s' : Shared), CX w [] H s (fun _ _ _ => False) e s' → False) : WalkO q loose XP YP l.row.toRowW d [] (fun f vs => PySem.call f vs) := by
  refine Att.attach_callB h1 h3 fun w s₀ s₁ mg mb fa o pm cd doc a vs ns Gr Y ho hd hcd hmg hobj hints hlen hbits hg => ?_
  have KX := h5 w _ Y
  obtain ⟨fd, cs, sp, hT, nT, C, hb, hsp, hF⟩ := F w s₀ mg mb fa _ Y KX Gr hmg
  exact LamX.law_callTs KX Gr.T.g Gr.T.b Gr.T.builtins Gr.T.nolimit hg hT nT C Gr.T.bmain hobj hints (Nat.le_trans hlen h2) h4 hF hb (fun H hH hS => hsp H a ns hlen hbits hH hS) fun H e s' => h6 w H s₁ e s'
end G

namespace G
open PySem L2
/-! ### a def held by a name -/
def dCallFn (FT : List (Str × (List D → Store → R D))) (i : Nat) (fa : DA) : DE := fun env st => match env[i]? with
  | some (some (.fn x)) => (match FT.lookup x with
    | some f => (fa env st).bind fun ds st => f ds st
    | none => .bad)
  | _ => .bad
section
variable {X : Cx} {g : GC} {W : WX} {k : Nat} {pos : Pos}
theorem pd_callFn (i : Nat) {a : Str} {p1 : Pos} {n j : Nat} {e : Expr} {es : List Expr} {fa : DA} {FT : List (Str × (List D → Store → R D))} (O : Ok X g W k)
    (F : ∀ x f, FT.lookup x = some f → FnD X.prog X.w X.mg X.base g j x n f ∧ X.mg x = some (.ref (g.ga x))) (hj : j ≤ k) (ha : PAD X g W (e :: es) fa) (hn : ∀ env st ds st', fa env st = .ok ds st' → ds.length = n) (hN : X.N[i]? = some a := by rfl) (hv : Vis X.env.scope a := by first | exact Or.inl rfl | exact Or.inr (Or.inl rfl) | exact Or.inr (Or.inr rfl))
    (hd : (a == ("__debug__" : Str)) = false := by decide) (hcd : (a == ("__classdict__" : Str)) = false := by decide) (he : starEach (e :: es) X.env = (false, eval e X.env) :: starEach es X.env := by rfl) (hpl : (backTo pos (starEach es X.env)).any (·.1) = false := by rfl) :
    PD X g W (.Call (.Name a p1) (e :: es) [] pos) (dCallFn FT i fa) := by
  refine ⟨fun pins s σ H Q I ⟨μ, env, st, S, E, q⟩ => ?_⟩
  unfold dCallFn at q
  split at q
  · rename_i x hx
    split at q
    · rename_i f hf
      obtain ⟨v, hs, ev⟩ := E.at_ i _ hx
      have ev : v = .ref (g.ga x) := ev
      subst ev
      obtain ⟨⟨fA, fd, ps, h1, h2, h3, h4⟩, hm⟩ := F x f hf
      rw [hm] at h1
      cases h1
      rw [← O.hK] at h2 h3 h4
      refine wpAny_Call_Name_kw (thn ((pe_var (pos := p1) (i := i) hN hv hd hcd).run pins s σ H (fun v H1 => v = .ref (g.ga x) ∧ H1 = H) I ⟨.ref (g.ga x), hs, rfl, rfl⟩) fun u s1 h1 => ?_)
      obtain ⟨v, H1, I1, r1, ev, eH⟩ := h1
      subst ev eH
      obtain rfl : u = Value.ref (g.ga x) := r1
      have hn := hn env st
      refine PySem.W.callWith_K (h₀ := X.base) I1.ok.mod.kin h2 (thn (ha.run pos pins s1 σ H1 (fun vs H2 => spD g n f vs H2 Q (fun c d H => W c d σ H)) I1 ⟨μ, env, st, S, E, ?_⟩) fun us s2 h5 => ?_) he hpl
      · have q : Post g W σ μ H1 ((fa env st).bind fun ds st => f ds st) (VP g Q) := q
        generalize fa env st = r at q hn ⊢
        cases r with
        | ok ds st1 => exact fun μ1 H2 L S1 vs rv => ⟨by rw [← rv.len]; exact hn ds st1 rfl, μ1, st1, ds, S1, rv, by
          have q := Post.le L q
          have q : Post g W σ μ1 H2 (f ds st1) (VP g Q) := q
          generalize f ds st1 = r at q ⊢
          cases r with
          | ok d st2 => exact q
          | ex c st2 => exact q
          | bad => exact q⟩
        | ex c st1 => exact q
        | bad => exact q
      · obtain ⟨vs, H2, I2, r2, q2⟩ := h5
        exact ⟨I2.kIn, run_fnS (E := fun σ => WE W σ) h4 (O.room.mono hj) h3 (passAt O.tk σ) I2 r2 q2⟩
    · exact q.elim
  · exact q.elim
/-! ### tuples of ints: <= -/
def lexLe : List Int → List Int → Bool
  | [], _ => true
  | _ :: _, [] => false
  | x :: xs, y :: ys => if x = y then lexLe xs ys else decide (x ≤ y)
theorem lexAt_le (ns ms : List Int) : ∀ (k i : Nat), i + k = min ns.length ms.length →
    Ob.lexAt (fun j => decide (ns.getD j 0 = ms.getD j 0)) (fun j => decide (ns.getD j 0 ≤ ms.getD j 0)) (decide (ns.length ≤ ms.length)) i k = lexLe (ns.drop i) (ms.drop i)
  | 0, i, h => by
    show decide (ns.length ≤ ms.length) = _
    by_cases hl : ns.length ≤ ms.length
    · have hi : i = ns.length := by omega
      rw [hi, List.drop_length]
      simp [lexLe, hl]
    · have hi : i = ms.length := by omega
      rw [hi, List.drop_length, List.drop_eq_getElem_cons (by omega)]
      simp [lexLe, hl]
  | k + 1, i, h => by
    have h1 : i < ns.length := by omega
    have h2 : i < ms.length := by omega
    rw [Ob.lexAt_succ, lexAt_le ns ms k (i + 1) (by omega), List.drop_eq_getElem_cons h1, List.drop_eq_getElem_cons h2]
    have e1 : ns.getD i 0 = ns[i] := by simp [h1]
    have e2 : ms.getD i 0 = ms[i] := by simp [h2]
    rw [e1, e2]
    by_cases c : ns[i] = ms[i]
    · simp [lexLe, c]
    · simp [lexLe, c]
def aLeT : D → D → Store → R D
  | .int i, .int j, st => .ok (.bl (decide (i ≤ j))) st
  | .tup xs, .tup ys, st => match intsD xs, intsD ys with
    | some ns, some ms => .ok (.bl (lexLe ns ms)) st
    | _, _ => .bad
  | _, _, _ => .bad
theorem oLeT (O : Ok X g W k) : OpD X g W (compareOp .LtE) aLeT := by
  refine ⟨_, op_le.or (op_leT (by have := O.hu; omega)), fun σ μ H st x y v u Q S rx ry h => ?_⟩
  unfold aLeT at h
  split at h
  · exact .inl ⟨_, _, rx, ry, h.here S _ rfl⟩
  · split at h
    · rename_i xs ys ns ms h1 h2
      obtain ⟨a, vs, e1, q1, r1⟩ := seqT_ok rx rfl
      obtain ⟨a2, vs2, e2, q2, r2⟩ := seqT_ok ry rfl
      refine .inr ?_
      rw [O.hK]
      rw [ints_ok h1 r1] at q1
      rw [ints_ok h2 r2] at q2
      refine ⟨a, a2, ns, ms, e1, e2, q1, q2, ?_⟩
      rw [lexAt_le ns ms _ 0 (by omega)]
      exact h.here S _ rfl
    · exact h.elim
  · exact h.elim
end
end G

namespace G
open PySem L2
/-! ### sorted -/
def insI (x : Int) : List Int → List Int
  | [] => [x]
  | y :: r => if x ≤ y then x :: y :: r else y :: insI x r
def sortI (l : List Int) : List Int := l.foldr insI []
theorem insI_perm (x : Int) : ∀ l, (insI x l).Perm (x :: l)
  | [] => .refl _
  | y :: r => by
    unfold insI
    split
    · exact .refl _
    · exact ((insI_perm x r).cons y).trans (.swap x y r)
theorem sortI_perm : ∀ l, (sortI l).Perm l
  | [] => .refl _
  | x :: l => (insI_perm x _).trans ((sortI_perm l).cons x)
theorem insI_sorted (x : Int) : ∀ l, l.Pairwise (· ≤ ·) → (insI x l).Pairwise (· ≤ ·)
  | [], _ => List.pairwise_singleton _ _
  | y :: r, h => by
    obtain ⟨h1, h2⟩ := List.pairwise_cons.mp h
    unfold insI
    split
    · rename_i c
      refine List.pairwise_cons.mpr ⟨fun z hz => ?_, h⟩
      rcases List.mem_cons.mp hz with rfl | hz
      · exact c
      · exact Int.le_trans c (h1 z hz)
    · rename_i c
      refine List.pairwise_cons.mpr ⟨fun z hz => ?_, insI_sorted x r h2⟩
      rcases List.mem_cons.mp ((insI_perm x r).mem_iff.mp hz) with rfl | hz
      · omega
      · exact h1 z hz
theorem sortI_sorted : ∀ l, (sortI l).Pairwise (· ≤ ·)
  | [] => .nil
  | x :: l => insI_sorted x _ (sortI_sorted l)
theorem sortI_eq {ns ms : List Int} (h : ms.Perm ns) (p : ms.Pairwise (· ≤ ·)) : ms = sortI ns :=
  List.Perm.eq_of_pairwise (le := (· ≤ ·)) (fun _ _ _ _ h1 h2 => Int.le_antisymm h1 h2) p (sortI_sorted ns) (h.trans (sortI_perm ns).symm)
theorem lexLe_total : ∀ a b : List Int, lexLe a b = true ∨ lexLe b a = true
  | [], _ => .inl rfl
  | _ :: _, [] => .inr rfl
  | x :: a, y :: b => by
    unfold lexLe
    by_cases h : x = y
    · subst h
      simp
      exact lexLe_total a b
    · have h' : ¬ y = x := fun z => h z.symm
      simp [h, h']
      omega
theorem lexLe_trans : ∀ a b c : List Int, lexLe a b = true → lexLe b c = true → lexLe a c = true
  | [], _, _, _, _ => rfl
  | _ :: _, [], _, h, _ => by cases h
  | _ :: _, _ :: _, [], _, h => by cases h
  | x :: a, y :: b, z :: c, h1, h2 => by
    unfold lexLe at h1 h2 ⊢
    by_cases e1 : x = y
    · subst e1
      by_cases e2 : x = z
      · subst e2
        simp at h1 h2 ⊢
        exact lexLe_trans a b c h1 h2
      · simp [e2] at h2 ⊢
        exact h2
    · by_cases e2 : y = z
      · subst e2
        simp [e1] at h1 ⊢
        exact h1
      · simp [e1] at h1
        simp [e2] at h2
        have : ¬ x = z := by omega
        simp [this]
        omega
theorem lexLe_anti : ∀ a b : List Int, lexLe a b = true → lexLe b a = true → a = b
  | [], [], _, _ => rfl
  | [], _ :: _, _, h => by cases h
  | _ :: _, [], h, _ => by cases h
  | x :: a, y :: b, h1, h2 => by
    unfold lexLe at h1 h2
    by_cases e : x = y
    · subst e
      simp at h1 h2
      rw [lexLe_anti a b h1 h2]
    · have e' : ¬ y = x := fun z => e z.symm
      simp [e] at h1
      simp [e'] at h2
      omega
def insT (x : List Int) : List (List Int) → List (List Int)
  | [] => [x]
  | y :: r => if lexLe x y = true then x :: y :: r else y :: insT x r
def sortT (l : List (List Int)) : List (List Int) := l.foldr insT []
theorem insT_perm (x : List Int) : ∀ l, (insT x l).Perm (x :: l)
  | [] => .refl _
  | y :: r => by
    unfold insT
    split
    · exact .refl _
    · exact ((insT_perm x r).cons y).trans (.swap x y r)
theorem sortT_perm : ∀ l, (sortT l).Perm l
  | [] => .refl _
  | x :: l => (insT_perm x _).trans ((sortT_perm l).cons x)
theorem insT_sorted (x : List Int) : ∀ l, l.Pairwise (lexLe · · = true) → (insT x l).Pairwise (lexLe · · = true)
  | [], _ => List.pairwise_singleton _ _
  | y :: r, h => by
    obtain ⟨h1, h2⟩ := List.pairwise_cons.mp h
    unfold insT
    split
    · rename_i c
      refine List.pairwise_cons.mpr ⟨fun z hz => ?_, h⟩
      rcases List.mem_cons.mp hz with rfl | hz
      · exact c
      · exact lexLe_trans _ _ _ c (h1 z hz)
    · rename_i c
      refine List.pairwise_cons.mpr ⟨fun z hz => ?_, insT_sorted x r h2⟩
      rcases List.mem_cons.mp ((insT_perm x r).mem_iff.mp hz) with rfl | hz
      · exact (lexLe_total z y).resolve_left c
      · exact h1 z hz
theorem sortT_sorted : ∀ l, (sortT l).Pairwise (lexLe · · = true)
  | [] => .nil
  | x :: l => insT_sorted x _ (sortT_sorted l)
theorem sortT_eq {ns ms : List (List Int)} (h : ms.Perm ns) (p : ms.Pairwise (lexLe · · = true)) : ms = sortT ns :=
  List.Perm.eq_of_pairwise (le := (lexLe · · = true)) (fun _ _ _ _ h1 h2 => lexLe_anti _ _ h1 h2) p (sortT_sorted ns) (h.trans (sortT_perm ns).symm)
theorem code_lex {B : Int} : ∀ {a b : List Int}, a.length = b.length → TS.Bd B a → TS.Bd B b → TS.code B a ≤ TS.code B b → lexLe a b = true
  | [], _, _, _, _, _ => rfl
  | x :: a, [], h, _, _, _ => by cases h
  | x :: a, y :: b, hl, ha, hb, h => by
    have hl2 : a.length = b.length := by simpa using hl
    have ha' : TS.Bd B a := fun m hm => ha m (List.mem_cons_of_mem _ hm)
    have hb' : TS.Bd B b := fun m hm => hb m (List.mem_cons_of_mem _ hm)
    unfold lexLe
    by_cases e : x = y
    · subst e
      rw [if_pos rfl]
      refine code_lex hl2 ha' hb' ?_
      by_cases c : TS.code B b < TS.code B a
      · have := (TS.code_same (B := B) (d := x) hl2.symm).mpr c
        omega
      · omega
    · rw [if_neg e]
      by_cases c : y < x
      · have := TS.code_lt hl2.symm hb' ha' c
        omega
      · simp
        omega
theorem reps_perm {g : GC} {μ : Mp} {H : Hp} {vs ys : List V} (p : ys.Perm vs) : ∀ {ds : List D}, Reps g μ H ds vs → ∃ es, es.Perm ds ∧ Reps g μ H es ys := by
  induction p with
  | nil => exact fun {ds} r => ⟨ds, .refl _, r⟩
  | cons x p ih =>
    intro ds r
    cases ds with
    | nil => cases (show _ = [] from r)
    | cons d ds =>
      obtain ⟨v, vr, e, r1, r2⟩ := r
      cases e
      obtain ⟨es, h1, h2⟩ := ih r2
      exact ⟨d :: es, h1.cons d, _, _, rfl, r1, h2⟩
  | swap x y l =>
    intro ds r
    match ds, r with
    | [], r => cases (show _ = [] from r)
    | [d], r =>
      obtain ⟨v, vr, e, r1, r2⟩ := r
      cases e
      cases (show _ = [] from r2)
    | d :: d2 :: ds, r =>
      obtain ⟨v, vr, e, r1, v2, vr2, e2, r2, r3⟩ := r
      cases e
      cases e2
      exact ⟨d2 :: d :: ds, .swap _ _ _, _, _, rfl, r2, _, _, rfl, r1, r3⟩
  | trans p q ih1 ih2 =>
    intro ds r
    obtain ⟨es, h1, h2⟩ := ih2 r
    obtain ⟨es', h3, h4⟩ := ih1 h2
    exact ⟨es', h3.trans h1, h4⟩
/-- tuples of ints -/
def keysD : List D → Option (List (List Int))
  | [] => some []
  | .tup xs :: r => match intsD xs, keysD r with
    | some ns, some ks => some (ns :: ks)
    | _, _ => none
  | _ :: _ => none
def tupI (ns : List Int) : D := .tup (ns.map .int)
theorem ints_inv : ∀ {xs : List D} {ns : List Int}, intsD xs = some ns → xs = ns.map .int
  | [], ns, e => by cases e; rfl
  | .int i :: r, ns, e => by
    have e : (intsD r).map (i :: ·) = some ns := e
    cases q : intsD r with
    | none => rw [q] at e; cases e
    | some ms =>
      rw [q] at e
      cases e
      rw [ints_inv q]
      rfl
  | .non :: _, _, e => by cases e
  | .bl _ :: _, _, e => by cases e
  | .str _ :: _, _, e => by cases e
  | .tup _ :: _, _, e => by cases e
  | .lst _ :: _, _, e => by cases e
  | .dic _ _ :: _, _, e => by cases e
  | .ref _ :: _, _, e => by cases e
  | .fn _ :: _, _, e => by cases e
  | .lam _ :: _, _, e => by cases e
  | .scr _ :: _, _, e => by cases e
theorem keys_inv : ∀ {ds : List D} {ks : List (List Int)}, keysD ds = some ks → ds = ks.map tupI
  | [], ks, e => by cases e; rfl
  | d :: r, ks, e => by
    cases d with
    | tup xs =>
      unfold keysD at e
      split at e
      · rename_i ns ks' h1 h2
        cases e
        rw [keys_inv h2, List.map_cons, tupI, ints_inv h1]
      · cases e
    | _ => cases e
def unT : D → List Int
  | .tup xs => (intsD xs).getD []
  | _ => []
theorem unT_tup (ns : List Int) : unT (tupI ns) = ns := by
  unfold unT tupI
  simp
theorem perm_keys {es : List D} {ks : List (List Int)} (p : es.Perm (ks.map tupI)) : ∃ ks' : List (List Int), ks'.Perm ks ∧ es = ks'.map tupI := by
  have all : ∀ d ∈ es, tupI (unT d) = d := fun d hd => by
    obtain ⟨n, _, e⟩ := List.mem_map.mp (p.mem_iff.mp hd)
    rw [← e, unT_tup]
  refine ⟨es.map unT, ?_, ?_⟩
  · have q := p.map unT
    rw [List.map_map] at q
    have e : ks.map (unT ∘ tupI) = ks := by
      rw [show (unT ∘ tupI) = id from funext fun ns => unT_tup ns, List.map_id]
    rw [e] at q
    exact q
  · rw [List.map_map]
    exact (List.map_id es).symm.trans (List.map_congr_left fun d hd => (all d hd).symm)
def seqSort (ds : List D) : Option (List D) := match intsD ds with
  | some ns => some ((sortI ns).map .int)
  | none => match keysD ds with
    | some ks => if ks.length < 64 ∧ 1 ≤ (ks.headD []).length ∧ (ks.all fun k => decide (k.length = (ks.headD []).length) && k.all fun i => decide (0 ≤ i)) = true then some ((sortT ks).map tupI) else none
    | none => none
def bSorted (b : Bool) : List D → Store → R D := fun ds st => match ds with
  | [d] => (match seqL st d with
    | some ds => (match seqSort ds with
      | some es => mkL b es st
      | none => .bad)
    | none => .bad)
  | _ => .bad
section
variable {X : Cx} {g : GC} {W : WX} {k : Nat} {pos : Pos}
theorem bound_ex : ∀ ks : List (List Int), (∀ k ∈ ks, ∀ i ∈ k, 0 ≤ i) → ∃ B : Int, 0 ≤ B ∧ ∀ k ∈ ks, TS.Bd B k
  | [], _ => ⟨0, Int.le_refl _, fun _ h => nomatch h⟩
  | k :: ks, h => by
    obtain ⟨B, b0, hB⟩ := bound_ex ks fun k' hk => h k' (List.mem_cons_of_mem _ hk)
    have one : ∀ l : List Int, (∀ i ∈ l, 0 ≤ i) → ∃ C : Int, B ≤ C ∧ ∀ i ∈ l, 0 ≤ i ∧ i < C := by
      intro l
      induction l with
      | nil => exact fun _ => ⟨B, Int.le_refl _, fun _ h => nomatch h⟩
      | cons i l ih =>
        intro h
        obtain ⟨C, h1, h2⟩ := ih fun j hj => h j (List.mem_cons_of_mem _ hj)
        have hi := h i List.mem_cons_self
        refine ⟨C + i + 1, by omega, fun j hj => ?_⟩
        rcases List.mem_cons.mp hj with rfl | hj
        · omega
        · have := h2 j hj
          omega
    obtain ⟨C, h1, h2⟩ := one k (h k List.mem_cons_self)
    refine ⟨C, by omega, fun k' hk i hi => ?_⟩
    rcases List.mem_cons.mp hk with rfl | hk
    · exact h2 i hi
    · have := hB k' hk i hi
      omega
theorem keys_tup {μ : Mp} {H : Hp} : ∀ {ks : List (List Int)} {vs : List V}, Reps g μ H (ks.map tupI) vs → vs.length = ks.length ∧ ∀ x ∈ vs, ∃ n ∈ ks, TupI g.K H x n
  | [], vs, r => by rw [show vs = [] from r]; exact ⟨rfl, fun _ h => nomatch h⟩
  | n :: ks, vs, r => by
    obtain ⟨v, vr, e, r1, r2⟩ := r
    subst e
    obtain ⟨h1, h2⟩ := keys_tup r2
    refine ⟨by simp [h1], fun x hx => ?_⟩
    rcases List.mem_cons.mp hx with rfl | hx
    · obtain ⟨a, us, ea, hs, ru⟩ := seqT_ok (d := tupI n) r1 rfl
      rw [ints_ok (ints_map n) ru] at hs
      exact ⟨n, List.mem_cons_self, a, ea, hs⟩
    · obtain ⟨m, hm, q⟩ := h2 x hx
      exact ⟨m, List.mem_cons_of_mem _ hm, q⟩
theorem keys_pair {μ : Mp} {H : Hp} {R : List Int → List Int → Prop} : ∀ {ks : List (List Int)} {vs : List V}, Reps g μ H (ks.map tupI) vs → vs.Pairwise (fun x y => ∀ n m, TupI g.K H x n → TupI g.K H y m → R n m) → ks.Pairwise R
  | [], vs, r, _ => .nil
  | n :: ks, vs, r, p => by
    obtain ⟨v, vr, e, r1, r2⟩ := r
    subst e
    obtain ⟨p1, p2⟩ := List.pairwise_cons.mp p
    refine List.pairwise_cons.mpr ⟨fun m hm => ?_, keys_pair r2 p2⟩
    have t1 : TupI g.K H v n := by
      obtain ⟨a, us, ea, hs, ru⟩ := seqT_ok (d := tupI n) r1 rfl
      rw [ints_ok (ints_map n) ru] at hs
      exact ⟨a, ea, hs⟩
    have at_ : ∀ {ks : List (List Int)} {vs : List V}, Reps g μ H (ks.map tupI) vs → m ∈ ks → ∃ y ∈ vs, TupI g.K H y m := by
      intro ks
      induction ks with
      | nil => exact fun _ h => nomatch h
      | cons k ks ih =>
        intro vs r hm
        obtain ⟨v, vr, e, r1, r2⟩ := r
        subst e
        rcases List.mem_cons.mp hm with rfl | hm
        · obtain ⟨a, us, ea, hs, ru⟩ := seqT_ok (d := tupI m) r1 rfl
          rw [ints_ok (ints_map m) ru] at hs
          exact ⟨v, List.mem_cons_self, a, ea, hs⟩
        · obtain ⟨y, hy, q⟩ := ih r2 hm
          exact ⟨y, List.mem_cons_of_mem _ hy, q⟩
    obtain ⟨y, hy, q⟩ := at_ r2 hm
    exact p1 y hy n m t1 q
theorem cSorted (b : Bool) (O : Ok X g W k) : CallD X g W (.builtin "sorted") (bSorted b) := by
  have hc : CallR X (.builtin "sorted") (fun vs H Q => rSortedI X.K vs H Q ∨ ∃ d B, 1 ≤ d ∧ rSortU X.K d B vs H Q) := by
    intro pins s σ H vs us Q I r h
    rcases h with h | ⟨d, B, hd, h⟩
    · exact cr_sortedI pins s σ H vs us Q I r h
    · exact cr_sortT hd pins s σ H vs us Q I r h
  refine call1 hc fun σ μ H st d v Q S r q => ?_
  split at q
  · rename_i ds hds
    obtain ⟨a, vs, ea, hs, rs⟩ := seqL_ok S r hds
    unfold seqSort at q
    split at q
    · rename_i es he
      split at he
      · rename_i ns hns
        cases he
        refine .inl ⟨a, ns, by rw [ea], by rw [O.hK, ← ints_ok hns rs]; exact hs, fun ns' p hp hso hn => ?_⟩
        have e := sortI_eq hp hso
        subst e
        exact mkL_ok S (reps_ints _) q hn
      · split at he
        · rename_i ks hks
          split at he
          · rename_i hcond
            cases he
            have ed := keys_inv hks
            subst ed
            obtain ⟨hl, hm⟩ := keys_tup rs
            simp only [List.all_eq_true, Bool.and_eq_true, decide_eq_true_eq] at hcond
            obtain ⟨c1, c2, c3⟩ := hcond
            obtain ⟨B, _, hB⟩ := bound_ex ks fun k hk i hi => (c3 k hk).2 i hi
            refine .inr ⟨(ks.headD []).length, B, c2, a, vs, by rw [ea], by rw [O.hK]; exact hs, by rw [hl]; exact c1, fun x hx => ?_, fun ys p hp hso hn => ?_⟩
            · obtain ⟨n, hn, t⟩ := hm x hx
              exact ⟨n, by rw [O.hK]; exact t, (c3 n hn).1, hB n hn⟩
            · obtain ⟨es, p1, r1⟩ := reps_perm hp rs
              obtain ⟨ks', p2, e⟩ := perm_keys p1
              subst e
              rw [O.hK] at hso
              have so := keys_pair r1 hso
              have so2 : ks'.Pairwise (lexLe · · = true) := so.imp_of_mem fun {n m} hn hm h => by
                have n1 := p2.mem_iff.mp hn
                have m1 := p2.mem_iff.mp hm
                exact code_lex ((c3 n n1).1.trans (c3 m m1).1.symm) (hB n n1) (hB m m1) h
              rw [← sortT_eq p2 so2] at q
              exact mkL_ok S r1 q hn
          · cases he
        · cases he
    · exact q.elim
  · exact q.elim
end
end G

namespace G
open PySem L2
section
variable {P : Program} {w : World} {mg : Str → Option Value} {base h : Heap} {g : GC} {K : PySem.W.Frag}
theorem glob_fn {x : Str} (G₀ : Glob g mg x (.fn x)) : mg x = some (.ref (g.ga x)) := by
  obtain ⟨u, v, h1, h2, h3⟩ := G₀.is
  have e : v = .ref (g.ga x) := h3 ⟨[], []⟩ (fun _ => none)
  subst e
  obtain rfl : u = Value.ref (g.ga x) := h2
  exact h1
theorem globFn_mk {x : Str} {C : Addr} (X : K.In h) (G₀ : h.Ns mainGlobals mg) (hK : g.K = K) (hC : g.ga x = C) (a : PySem.W.nsIn K mainGlobals x = some (some (.ref C))) : Glob g mg x (.fn x) := by
  subst hC
  exact ⟨_, .ref (g.ga x), PySem.W.mg_of X G₀ a, rfl, fun _ _ => rfl⟩
theorem ft2 {x1 x2 : Str} {n j1 j2 j : Nat} {f1 f2 : List D → Store → R D} (F1 : FnD P w mg base g j1 x1 n f1) (m1 : Glob g mg x1 (.fn x1)) (F2 : FnD P w mg base g j2 x2 n f2) (m2 : Glob g mg x2 (.fn x2)) (h1 : j1 ≤ j) (h2 : j2 ≤ j) :
    ∀ x f, ([(x1, f1), (x2, f2)] : List (Str × (List D → Store → R D))).lookup x = some f → FnD P w mg base g j x n f ∧ mg x = some (.ref (g.ga x)) := by
  intro x f e
  rcases List.mem_cons.mp (lookup_mem e) with q | q
  · cases q
    exact ⟨F1.mono h1, glob_fn m1⟩
  · cases List.mem_singleton.mp q
    exact ⟨F2.mono h2, glob_fn m2⟩
end
end G

namespace G
open PySem L2 PyProof.Rows
/-! ### ranges with a step; list(range) -/
def rangeC (i c : Int) (n : Nat) : List D := (List.range n).map fun t => .int (i + (t : Nat) * c)
def rgOk (i j c : Int) : Bool := decide (c ≠ 0) && decide (c.natAbs < 1073741824) && Builtin.Range.small i j c && decide (0 ≤ Builtin.Range.rangeSize i j c)
theorem rgOk_ok {i j c : Int} (h : rgOk i j c = true) : RgC i j c (Builtin.Range.rangeSize i j c).toNat := by
  unfold rgOk at h
  rw [Bool.and_eq_true, Bool.and_eq_true, Bool.and_eq_true, decide_eq_true_eq, decide_eq_true_eq, decide_eq_true_eq] at h
  exact ⟨h.1.1.1, h.1.1.2, h.1.2, (Int.toNat_of_nonneg h.2).symm⟩
def rng3 (d e u : D) (st : Store) : R (List D) := match d, e, u with
  | .int i, .int j, .int c => if rgOk i j c = true ∧ (Builtin.Range.rangeSize i j c).toNat ≤ 16777216 then .ok (rangeC i c (Builtin.Range.rangeSize i j c).toNat) st else .bad
  | _, _, _ => .bad
def dRng3 (f h q : DE) : DI := fun env st => (f env st).bind fun d st => (h env st).bind fun e st => (q env st).bind fun u st => (rng3 d e u st).bind fun ds st => .ok (ds, none) st
section
variable {X : Cx} {g : GC} {W : WX} {k : Nat} {pos : Pos} {tg : Expr}
theorem itc_ok {lo c : Int} {n : Nat} {μ : Mp} {H : Hp} : ItOk g (Itc lo c n) (rangeC lo c n) none μ H := by
  intro μ' H' st' L S _
  refine ⟨fun i d hd => ?_, by show n ≤ (rangeC lo c n).length; unfold rangeC; simp⟩
  unfold rangeC at hd
  rw [List.getElem?_map] at hd
  by_cases hi' : i < n
  · rw [List.getElem?_range hi'] at hd
    cases hd
    refine ⟨hi', fun x H'' y => ?_⟩
    obtain ⟨e, y⟩ := y
    subst e y
    exact ⟨Le.refl, S, rfl⟩
  · rw [List.getElem?_eq_none (by simpa using hi')] at hd
    cases hd
theorem rng3_inv {d e u : D} {st : Store} {μ : Mp} {H : Hp} {σ : L2.St} {β : Type} {P : Mp → Hp → β → Store → Prop} {kk : List D → Store → R β} (h : Post g W σ μ H ((rng3 d e u st).bind kk) P) : ∃ i j c, d = .int i ∧ e = .int j ∧ u = .int c ∧ rgOk i j c = true ∧ (Builtin.Range.rangeSize i j c).toNat ≤ 16777216 ∧ Post g W σ μ H (kk (rangeC i c (Builtin.Range.rangeSize i j c).toNat) st) P := by
  unfold rng3 at h
  split at h
  · split at h
    · rename_i i j c hj
      exact ⟨i, j, c, rfl, rfl, rfl, hj.1, hj.2, h⟩
    · exact h.elim
  · exact h.elim
theorem i_range3 {a b c : Expr} {f h q : DE} {p : Pos} (hm : X.mg "range" = none) (ha : PD X g W a f) (hb : PD X g W b h) (hc : PD X g W c q) (hg : Gl X "range" := by rfl)
    (hs : starEach [a, b, c] X.env = (false, eval a X.env) :: starEach [b, c] X.env := by rfl) (hs2 : starEach [b, c] X.env = (false, eval b X.env) :: starEach [c] X.env := by rfl) (hs3 : starEach [c] X.env = (false, eval c X.env) :: starEach [] X.env := by rfl) (hpl : (backTo pos (starEach [b, c] X.env)).any (·.1) = false := by rfl) :
    PID X g W tg (.Call (.Name "range" p) [a, b, c] [] pos) (dRng3 f h q) :=
  PI.imp (pi_range3 hg hm (L2.pa_cons ha (L2.pa_cons hb (L2.pa_cons hc L2.pa_nil hs3) hs2) hs) hs hpl) fun σ H R₀ ⟨μ, env, st, S, E, q⟩ => by
    refine bindE S E q fun μ1 H1 d st1 v L1 S1 E1 r1 h1 => ?_
    refine bindE S1 E1 h1 fun μ2 H2 d2 st2 v2 L2 S2 E2 r2 h2 => ?_
    refine bindE S2 E2 h2 fun μ3 H3 d3 st3 v3 L3 S3 E3 r3 h3 => ?_
    have r1 := (r1.le L2).le L3
    have r2 := r2.le L3
    obtain ⟨i, j, c, rfl, rfl, rfl, hj, hz, h3⟩ := rng3_inv h3
    exact ⟨i, j, c, _, by rw [show v = V.int i from r1, show v2 = V.int j from r2, show v3 = V.int c from r3], rgOk_ok hj, h3.here S3 _ itc_ok⟩
/-- an expression that makes a range -/
def PRg3 (X : Cx) (e : Expr) (t : L2.St → Hp → (Int → Int → Int → Hp → Prop) → Prop) : Prop :=
  ∀ (pins : List (Addr × Obj)) (s : Shared) (σ : L2.St) (H : Hp) (Q : Int → Int → Int → Hp → Prop), Inv X pins σ H s → t σ H Q →
    wpAny (model X.prog X.w) X.A (eval e X.env) (fun x s' => ∃ r a b c t u v H', x = .ref r ∧ IsRange s'.heap r a b c t u v ∧ Inv X pins σ H' s' ∧ Q a b c H') X.xe s
def tRg3 (ta : TA) : L2.St → Hp → (Int → Int → Int → Hp → Prop) → Prop := fun σ H Q => ta σ H fun vs H1 => ∃ i j c, vs = [.int i, .int j, .int c] ∧ c ≠ 0 ∧ c.natAbs < 1073741824 ∧ Q i j c H1
def tRg2' (ta : TA) : L2.St → Hp → (Int → Int → Int → Hp → Prop) → Prop := fun σ H Q => ta σ H fun vs H1 => ∃ i j, vs = [.int i, .int j] ∧ Q i j 1 H1
theorem prg_3 {a b c : Expr} {ta : TA} {p pos : Pos} (hg : Gl X "range") (hm : X.mg "range" = none) (ha : PA X [a, b, c] ta)
    (hs : starEach [a, b, c] X.env = (false, eval a X.env) :: starEach [b, c] X.env := by rfl) (hpl : (backTo pos (starEach [b, c] X.env)).any (·.1) = false := by rfl) :
    PRg3 X (.Call (.Name "range" p) [a, b, c] [] pos) (tRg3 ta) := by
  intro pins s σ H Q I h
  refine Call_ (ld_blt I hg hm boot_range (PyProof.Rows.callWith_type1 (thn (ha.run pos pins s σ H _ I h) fun us s1 ⟨vs, H1, I1, r1, q1⟩ => ?_) hs hpl))
  obtain ⟨i, j, k, e, c0, c1, q⟩ := q1
  subst e
  cases r1 with
  | cons r rr =>
    cases rr with
    | cons r' rr =>
      cases rr with
      | cons r'' rr =>
        cases rr
        obtain ⟨t, rfl⟩ := r
        obtain ⟨t', rfl⟩ := r'
        obtain ⟨t'', rfl⟩ := r''
        exact call_range_3 c0 ⟨_, i, j, k, _, _, _, H1, rfl, IsRange.new _ _ _ _ _ _ _, I1.kept (t' := s1.toks) fun b o e => Heap.get?_push_of_some _ e, q⟩ (.inl (PyProof.noPylong_small c1))
theorem prg_2' {a b : Expr} {ta : TA} {p pos : Pos} (hg : Gl X "range") (hm : X.mg "range" = none) (ha : PA X [a, b] ta)
    (hs : starEach [a, b] X.env = (false, eval a X.env) :: starEach [b] X.env := by rfl) (hpl : (backTo pos (starEach [b] X.env)).any (·.1) = false := by rfl) :
    PRg3 X (.Call (.Name "range" p) [a, b] [] pos) (tRg2' ta) := by
  intro pins s σ H Q I h
  refine Call_ (ld_blt I hg hm boot_range (PyProof.Rows.callWith_type1 (thn (ha.run pos pins s σ H _ I h) fun us s1 ⟨vs, H1, I1, r1, q1⟩ => ?_) hs hpl))
  obtain ⟨i, j, e, q⟩ := q1
  subst e
  cases r1 with
  | cons r rr =>
    cases rr with
    | cons r' rr =>
      cases rr
      obtain ⟨t, rfl⟩ := r
      obtain ⟨t', rfl⟩ := r'
      exact call_range_2 ⟨_, i, j, 1, _, _, _, H1, rfl, IsRange.new _ _ _ _ _ _ _, I1.kept fun b o e => Heap.get?_push_of_some _ e, q⟩
def rgVC (i c : Int) (n : Nat) : List V := (List.range n).map fun t => V.int (i + (t : Nat) * c)
def tLstRg3 (te : L2.St → Hp → (Int → Int → Int → Hp → Prop) → Prop) : TE := fun σ H Q => te σ H fun i j c H1 => ∃ n, Builtin.Range.small i j c = true ∧ Builtin.Range.rangeSize i j c = (n : Nat) ∧ n ≤ 16777216 ∧ ∀ q, H1 q = none → Q (.ref q) (upd H1 q (.lst (rgVC i c n)))
theorem pe_listRg3 {e : Expr} {te : L2.St → Hp → (Int → Int → Int → Hp → Prop) → Prop} {p pos : Pos} (hc : X.calm = true) (hg : Gl X "list") (hm : X.mg "list" = none) (he : PRg3 X e te) (na : starEach [e] X.env = (false, eval e X.env) :: starEach [] X.env := by rfl) : PE X (.Call (.Name "list" p) [e] [] pos) (tLstRg3 te) := by
  refine ⟨fun pins s σ H Q I h => ?_⟩
  refine Call_ (ld_blt I hg hm boot_list (PyProof.Rows.callWith_type1 (args_cons (thn (he pins s σ H _ I h) fun x s1 ⟨r, a, b, c, t, u, v, H1, ex, hr, I1, ok, q⟩ => args_nil ?_) na) na))
  subst ex
  obtain ⟨b1, b2, b5, q⟩ := q
  refine call_list_range (n := ok) (I1.ok.hd hc) hr b1 b2 b5 fun h' tk acc c' hk e' hi => ?_
  have hsz : acc.toList.length = ok := by rw [Array.length_toList]; exact hi.1
  refine ⟨.ref s1.heap.objs.size, upd H1 s1.heap.objs.size (.lst (rgVC a c ok)), I1.laid hk (Nat.le_refl _) (show ObjOk X.prog X.w _ _ _ (.lst (rgVC a c ok)) from ⟨?_, acc.toList, c', ?_, ?_⟩), rfl, q _ (I1.hok.fresh (Nat.le_refl _))⟩
  · unfold rgVC; rw [List.length_map, List.length_range, sizeLine_eq]; omega
  · unfold rgVC
    rw [← hsz]
    refine vals_of_get acc.toList _ fun j u hj => ?_
    obtain ⟨t, rfl⟩ := hi.2 j u (by rw [← hj, Array.getElem?_toList])
    exact ⟨t, rfl⟩
  · rw [Array.toArray_toList]; exact e'
theorem reps_rng {μ : Mp} {H : Hp} (i c : Int) : ∀ n : Nat, Reps g μ H (rangeC i c n) (rgVC i c n) := by
  intro n
  unfold rangeC rgVC
  generalize List.range n = l
  induction l with
  | nil => rfl
  | cons x l ih => exact ⟨_, _, rfl, rfl, ih⟩
def dListR3 (b : Bool) (f h q : DE) : DE := fun env st => (f env st).bind fun d st => (h env st).bind fun e st => (q env st).bind fun u st => (rng3 d e u st).bind fun ds st => mkL b ds st
def dListR2 (b : Bool) (f h : DE) : DE := fun env st => (f env st).bind fun d st => (h env st).bind fun e st => (rng3 d e (.int 1) st).bind fun ds st => mkL b ds st
theorem pd_listR3 {a b c : Expr} {f h q : DE} {lf : Bool} {p p2 pos2 : Pos} (O : Ok X g W k) (hm : X.mg "range" = none) (hml : X.mg "list" = none) (ha : PD X g W a f) (hb : PD X g W b h) (hc : PD X g W c q) (hg : Gl X "range" := by rfl) (hgl : Gl X "list" := by rfl)
    (hs : starEach [a, b, c] X.env = (false, eval a X.env) :: starEach [b, c] X.env := by rfl) (hs2 : starEach [b, c] X.env = (false, eval b X.env) :: starEach [c] X.env := by rfl) (hs3 : starEach [c] X.env = (false, eval c X.env) :: starEach [] X.env := by rfl) (hpl : (backTo pos2 (starEach [b, c] X.env)).any (·.1) = false := by rfl)
    (na : starEach [.Call (.Name "range" p2) [a, b, c] [] pos2] X.env = (false, eval (.Call (.Name "range" p2) [a, b, c] [] pos2) X.env) :: starEach [] X.env := by rfl) :
    PD X g W (.Call (.Name "list" p) [.Call (.Name "range" p2) [a, b, c] [] pos2] [] pos) (dListR3 lf f h q) :=
  PE.imp (pe_listRg3 O.calm hgl hml (prg_3 hg hm (L2.pa_cons ha (L2.pa_cons hb (L2.pa_cons hc L2.pa_nil hs3) hs2) hs) hs hpl) na) fun σ H Q ⟨μ, env, st, S, E, q⟩ => by
    refine bindE S E q fun μ1 H1 d st1 v L1 S1 E1 r1 h1 => ?_
    refine bindE S1 E1 h1 fun μ2 H2 d2 st2 v2 L2 S2 E2 r2 h2 => ?_
    refine bindE S2 E2 h2 fun μ3 H3 d3 st3 v3 L3 S3 E3 r3 h3 => ?_
    have r1 := (r1.le L2).le L3
    have r2 := r2.le L3
    obtain ⟨i, j, c, rfl, rfl, rfl, hj, hz, h3⟩ := rng3_inv h3
    obtain ⟨z1, z2, z3, z4⟩ := rgOk_ok hj
    exact ⟨i, j, c, by rw [show v = V.int i from r1, show v2 = V.int j from r2, show v3 = V.int c from r3], z1, z2, _, z3, z4, hz, fun q hq => mkL_ok S3 (reps_rng _ _ _) h3 hq⟩
theorem pd_listR2 {a b : Expr} {f h : DE} {lf : Bool} {p p2 pos2 : Pos} (O : Ok X g W k) (hm : X.mg "range" = none) (hml : X.mg "list" = none) (ha : PD X g W a f) (hb : PD X g W b h) (hg : Gl X "range" := by rfl) (hgl : Gl X "list" := by rfl)
    (hs : starEach [a, b] X.env = (false, eval a X.env) :: starEach [b] X.env := by rfl) (hs2 : starEach [b] X.env = (false, eval b X.env) :: starEach [] X.env := by rfl) (hpl : (backTo pos2 (starEach [b] X.env)).any (·.1) = false := by rfl)
    (na : starEach [.Call (.Name "range" p2) [a, b] [] pos2] X.env = (false, eval (.Call (.Name "range" p2) [a, b] [] pos2) X.env) :: starEach [] X.env := by rfl) :
    PD X g W (.Call (.Name "list" p) [.Call (.Name "range" p2) [a, b] [] pos2] [] pos) (dListR2 lf f h) :=
  PE.imp (pe_listRg3 O.calm hgl hml (prg_2' hg hm (L2.pa_cons ha (L2.pa_cons hb L2.pa_nil hs2) hs) hs hpl) na) fun σ H Q ⟨μ, env, st, S, E, q⟩ => by
    refine bindE S E q fun μ1 H1 d st1 v L1 S1 E1 r1 h1 => ?_
    refine bindE S1 E1 h1 fun μ2 H2 d2 st2 v2 L2 S2 E2 r2 h2 => ?_
    have r1 := r1.le L2
    obtain ⟨i, j, c, rfl, rfl, e, hj, hz, h3⟩ := rng3_inv h2
    cases e
    obtain ⟨z1, z2, z3, z4⟩ := rgOk_ok hj
    exact ⟨i, j, by rw [show v = V.int i from r1, show v2 = V.int j from r2], _, z3, z4, hz, fun q hq => mkL_ok S2 (reps_rng _ _ _) h3 hq⟩
/-! ### enumerate -/
def enumD : Nat → List D → List D
  | _, [] => []
  | n, d :: ds => .tup [.int (n : Nat), d] :: enumD (n + 1) ds
def dEnum (f : DE) : DI := fun env st => (f env st).bind fun d st => match d with
  | .tup _ => .bad
  | d => match gdOf st d with
    | some p => .ok (enumD 0 p.1, p.2) st
    | none => .bad
theorem enum_get : ∀ (ds : List D) (n i : Nat) (d : D), (enumD n ds)[i]? = some d → ∃ e, ds[i]? = some e ∧ d = .tup [.int ((n + i : Nat) : Int), e]
  | [], n, i, d, h => by simp [enumD] at h
  | x :: ds, n, 0, d, h => by
    simp [enumD] at h
    exact ⟨x, rfl, h.symm⟩
  | x :: ds, n, i + 1, d, h => by
    obtain ⟨e, h1, h2⟩ := enum_get ds (n + 1) i d (by simpa [enumD] using h)
    exact ⟨e, by simpa using h1, by rw [h2, show n + 1 + i = n + (i + 1) by omega]⟩
theorem enum_len : ∀ (ds : List D) (n : Nat), (enumD n ds).length = ds.length
  | [], n => rfl
  | x :: ds, n => by simp [enumD, enum_len ds]
theorem ite_ok {J : It} {K : PySem.W.Frag} {a : Addr} (e : J = Ite K a) {ds : List D} {gd : Gd} {μ : Mp} {H : Hp}
    (h : ∀ μ' H' st', Lw μ H μ' H' → RelS g μ' H' st' → gdOk gd st' = true → ∃ vs, SqL K H' a vs ∧ Reps g μ' H' ds vs) : ItOk g J (enumD 0 ds) gd μ H := by
  subst e
  intro μ' H' st' L S hg
  obtain ⟨vs, h1, h2⟩ := h μ' H' st' L S hg
  refine ⟨fun i d hd => ?_, ⟨vs, h1, by rw [enum_len, h2.len]; exact Nat.le_refl _⟩⟩
  obtain ⟨e, he, rfl⟩ := enum_get ds 0 i d hd
  obtain ⟨v, h3, h4⟩ := h2.get he
  refine ⟨⟨vs, v, h1, h3⟩, fun x H'' y => ?_⟩
  obtain ⟨T, w, e1, hT, e2, y⟩ := y
  have := y vs h1
  rw [h3] at this
  cases this
  subst e1 e2
  rw [Nat.zero_add]
  exact ⟨le_new S hT, S.frz hT, ⟨T, _, rfl, .inl ⟨S.out hT, .inl upd_same⟩, _, _, rfl, rfl, v, [], rfl, h4.le (le_new S hT), rfl⟩⟩
theorem i_enum {e : Expr} {f : DE} {p tpos : Pos} {elts : List Expr} {kk : Nat} (O : Ok X g W k) (hm : X.mg "enumerate" = none) (he : PD X g W e f) (hg : Gl X "enumerate" := by rfl) (hs : starEach [e] X.env = [(false, eval e X.env)] := by rfl) :
    PID X g W (.Tuple elts kk tpos) (.Call (.Name "enumerate" p) [e] [] pos) (dEnum f) :=
  PI.imp (pi_enum hg hm (L2.pa_cons he L2.pa_nil hs) hs) fun σ H R ⟨μ, env, st, S, E, q⟩ => by
    refine bindE S E q fun μ1 H1 d st1 v L1 S1 E1 r1 h1 => ?_
    rw [O.hK]
    cases d with
    | lst ds =>
      obtain ⟨a, vs, e, h2, r2⟩ := seqL_ok S1 (ds := ds) r1 rfl
      refine ⟨a, vs, by rw [e], h2, h1.here S1 _ (ite_ok rfl fun μ' H' st' L S _ => ?_)⟩
      obtain ⟨a', vs', e', h3, r3⟩ := seqL_ok S (ds := ds) (r1.lw L) rfl
      rw [e] at e'
      cases e'
      exact ⟨vs', h3, r3⟩
    | scr ns =>
      obtain ⟨a, vs, e, h2, r2⟩ := seqL_ok S1 (ds := ns.map .int) r1 rfl
      refine ⟨a, vs, by rw [e], h2, h1.here S1 _ (ite_ok rfl fun μ' H' st' L S _ => ?_)⟩
      obtain ⟨a', vs', e', h3, r3⟩ := seqL_ok S (ds := ns.map .int) (r1.lw L) rfl
      rw [e] at e'
      cases e'
      exact ⟨vs', h3, r3⟩
    | ref n =>
      cases hn : lstAt st1 n with
      | none => simp only [gdOf, hn] at h1; exact h1.elim
      | some ds =>
        simp only [gdOf, hn] at h1
        obtain ⟨a, vs, e, h2, r2⟩ := seqL_ok S1 (ds := ds) r1 hn
        refine ⟨a, vs, by rw [e], h2, h1.here S1 _ (ite_ok rfl fun μ' H' st' L S hg => ?_)⟩
        have hs : lstAt st' n = some ds := by
          have hg : (match lstAt st' n with
            | some es => D.sames es ds
            | none => false) = true := hg
          cases q : lstAt st' n with
          | none => rw [q] at hg; cases hg
          | some es => rw [q] at hg; rw [sames_eq _ _ hg]
        obtain ⟨a', vs', e', h3, r3⟩ := seqL_ok S (ds := ds) (r1.lw L) hs
        rw [e] at e'
        cases e'
        exact ⟨vs', h3, r3⟩
    | tup ds => exact h1.elim
    | _ => exact h1.elim
end
end G

namespace G
open PySem L2 PyProof.Rows
/-! ### xs += ys, both lists -/
def aExt : D → D → Store → R D
  | .ref n, y, st => match lstAt st n, seqR st y with
    | some xs, some ys => if xs.length + ys.length ≤ 16777216 then .ok (.ref n) (st.set n (.lst (xs ++ ys))) else .bad
    | _, _ => .bad
  | _, _, _ => .bad
/-- dicts with int and text keys -/
def keyD : D → Option Key
  | .int i => some (.inl i)
  | .str x => some (.inr x)
  | _ => none
def replD (k : Key) (x : D) : List Key → List D → List D
  | k' :: kk, d :: ds => (if k' = k then x else d) :: replD k x kk ds
  | _, _ => []
def putKs (kk : List Key) (k : Key) : List Key := if (kk.any fun x => decide (x = k)) = true then kk else kk ++ [k]
def putDs (kk : List Key) (vs : List D) (k : Key) (x : D) : List D := if (kk.any fun x => decide (x = k)) = true then replD k x kk vs else vs ++ [x]
def dcD (gt : DG) (ft : DT) (fk fe : DE) (gd : Gd) : List D → Env → Store → List Key → List D → R D
  | [], _, st, kk, vs => if gdOk gd st = true then .ok (.dic (kk.map .k) vs) st else .bad
  | d :: ds, env, st, kk, vs => if gdOk gd st = true then (match gt d env with
    | none => .bad
    | some env1 => (ft env1 st).b fun b st => if b = true then (fk env1 st).b fun y st => (fe env1 st).b fun x st => (match keyD y with
        | some k => dcD gt ft fk fe gd ds env st (putKs kk k) (putDs kk vs k x)
        | none => .bad) else dcD gt ft fk fe gd ds env st kk vs) else .bad
def dDc (fi : DI) (gt : DG) (ft : DT) (fk fe : DE) (vs : List Nat) : DE := fun env st => (fi env st).bind fun p st => if p.1.length ≤ 16777216 then dcD gt ft fk fe p.2 p.1 (wipeE env vs) st [] [] else .bad
section
variable {X : Cx} {g : GC} {W : WX} {k : Nat} {pos : Pos} {μ : Mp} {H : Hp}
theorem rvExt : RV g W (fun x y H Q => rExt2 x y H Q) aExt := fun σ μ H st x y v u Q S rx ry h => by
  unfold aExt at h
  split at h
  · rename_i n
    split at h
    · rename_i xs ys e1 e2
      split at h
      · rename_i hl
        obtain ⟨a, ea, ha⟩ := rx
        obtain ⟨vs, h1, r1⟩ := S.at_ n a _ ha (lstAt_eq e1)
        obtain ⟨b, ws, eb, h2, r2⟩ := seqR_ok S ry e2
        have hm := List.mem_of_getElem? ha
        have L5 := le_set (o := .lst (vs ++ ws)) S hm
        refine ⟨a, b, vs, ws, ea, eb, h1, h2, ?_, ?_⟩
        · rw [← r1.len, ← r2.len, sizeLine_eq]; omega
        · exact h μ _ L5 (S.set ha ⟨_, upd_same, (r1.append r2).le L5⟩) _ ⟨a, rfl, ha⟩
      · exact h.elim
    · exact h.elim
  · exact h.elim
theorem s_ext {i : Nat} {x : Str} {e : Expr} {f : DE} {pos' : Pos} (O : Ok X g W k) (he : PD X g W e f) (hi : X.N[i]? = some x := by rfl) (hx : Loc X.env.scope x := by first | exact .inl rfl | exact .inr rfl)
    (hf : X.fn x = true ∨ X.env.scope.names.lookup x = some .local := by first | exact .inl rfl | exact .inr rfl) : PSD X g W (.AugAssign (.Name x pos') .Add e pos) (dAug i aExt f) := s_aug O he iop_ext rvExt hi hx hf
theorem keyD_ok {d : D} {v : V} {k : Key} (r : Rep g μ H d v) (h : keyD d = some k) : v = kV k := by
  cases d with
  | int i => cases h; exact r
  | str x => cases h; exact r
  | _ => cases h
theorem keysK_map : ∀ kk : List Key, keysK (kk.map .k) = some kk
  | [] => rfl
  | k :: kk => by
    show (keysK (kk.map .k)).map (k :: ·) = _
    rw [keysK_map kk]
    rfl
theorem put_keys (kk : List Key) : ∀ (vs : List V) (k : Key) (v : V), kk.length = vs.length → ∃ ws : List V, putK (kk.zip vs) k v = (putKs kk k).zip ws ∧ ws.length = (putKs kk k).length ∧ (∀ (ds : List D) (d : D) (μ : Mp) (H : Hp), Reps g μ H ds vs → Rep g μ H d v → Reps g μ H (putDs kk ds k d) ws) := by
  have repl : ∀ (kk : List Key) (vs : List V) (k : Key) (v : V), kk.length = vs.length → ∃ ws : List V, (kk.zip vs).map (fun kv => if kv.1 = k then (kv.1, v) else kv) = kk.zip ws ∧ ws.length = kk.length ∧ (∀ (ds : List D) (d : D) (μ : Mp) (H : Hp), Reps g μ H ds vs → Rep g μ H d v → Reps g μ H (replD k d kk ds) ws) := by
    intro kk
    induction kk with
    | nil => intro vs k v hl; exact ⟨[], rfl, rfl, fun ds d μ H r1 r2 => by cases ds <;> rfl⟩
    | cons k' kk ih =>
      intro vs k v hl
      cases vs with
      | nil => simp at hl
      | cons w vs =>
        obtain ⟨ws, h1, h2, h3⟩ := ih vs k v (by simpa using hl)
        refine ⟨(if k' = k then v else w) :: ws, ?_, by simp [h2], fun ds d μ H r1 r2 => ?_⟩
        · rw [List.zip_cons_cons, List.map_cons, h1, List.zip_cons_cons]
          by_cases e : k' = k <;> simp [e]
        · cases ds with
          | nil => cases (show _ = [] from r1)
          | cons d' ds =>
            obtain ⟨v0, vr, e, r3, r4⟩ := r1
            cases e
            refine ⟨_, _, rfl, ?_, h3 ds d μ H r4 r2⟩
            by_cases e : k' = k
            · rw [if_pos e, if_pos e]; exact r2
            · rw [if_neg e, if_neg e]; exact r3
  intro vs k v hl
  have any : ((kk.zip vs).any fun kv => decide (kv.1 = k)) = (kk.any fun x => decide (x = k)) := by
    have : kk = (kk.zip vs).map (·.1) := by rw [List.map_fst_zip (by omega)]
    conv => rhs; rw [this]
    rw [List.any_map]
    rfl
  unfold putK putKs putDs
  rw [any]
  by_cases e : (kk.any fun x => decide (x = k)) = true
  · rw [if_pos e, if_pos e]
    simp only [e, if_true]
    exact repl kk vs k v hl
  · rw [if_neg e, if_neg e]
    simp only [e]
    refine ⟨vs ++ [v], ?_, by simp [hl], fun ds d μ H r1 r2 => r1.append ⟨v, [], rfl, r2, rfl⟩⟩
    rw [List.zip_append hl]
    rfl
theorem putKs_len (kk : List Key) (k : Key) : (putKs kk k).length ≤ kk.length + 1 := by
  unfold putKs
  split
  · omega
  · simp
theorem dc_ok {is vs : List Nat} {gt : DG} {ft : DT} {fk fe : DE} {σ : L2.St} {Q : VK} {μ1 : Mp} {H1 : Hp} {env : Env} {ds : List D} {gd : Gd} {st1 : Store} {J : It} (S1 : RelS g μ1 H1 st1) (E1 : RelE g μ1 H1 env σ) (hJ : ItOk g J ds gd μ1 H1) (hv : ∀ i ∈ is, i ∈ vs) (hl : ds.length ≤ 16777216)
    (h1 : Post g W σ μ1 H1 (dcD gt ft fk fe gd ds (wipeE env vs) st1 [] []) (VP g Q)) (D₀ : Addr) (hD : H1 D₀ = none) :
    ∃ Wv : Nat → Nat → Hp → Prop, (∃ m, Wv 0 m (upd H1 D₀ (.dK []))) ∧ ∀ i m H, Wv i m H →
      (J.stop i H ∧ Q (.ref D₀) H) ∨ (J.go i H ∧ ∃ Nx : Hp → Prop, (∀ H', Nx H' → ∃ m', m' < m ∧ Wv (i + 1) m' H') ∧ ∀ x H', J.yld i H x H' → tDG g is gt x (L2.wipe σ vs) H' fun σ2 H2 => L2.wipe σ2 vs = L2.wipe σ vs ∧ tDT g W0 ft σ2 H2 fun b H3 =>
        if b = true then tDE g W0 fk σ2 H3 fun y H4 => tDE g W0 fe σ2 H4 fun z H5 => ∃ kvs k, y = kV k ∧ H5 D₀ = some (.dK kvs) ∧ kvs.length < sizeLine ∧ Nx (upd H5 D₀ (.dK (putK kvs k z))) else Nx H3) := by
  have nD : ∀ a ∈ μ1.h, a ≠ D₀ := fun a ha => S1.hne hD ha
  have nD' : D₀ ∉ μ1.h := fun z => nD _ z rfl
  obtain ⟨m1, h1'⟩ := μ1
  refine ⟨fun i m H => m = ds.length - i ∧ i ≤ ds.length ∧ ∃ (μm : List Addr) (st : Store) (kk : List Key) (acc : List D) (vacc : List V), Le ⟨m1, h1'⟩ H1 ⟨μm, h1'⟩ H ∧ RelS g ⟨μm, D₀ :: h1'⟩ H st ∧ RelE g ⟨μm, D₀ :: h1'⟩ H env σ ∧ ItOk g J ds gd ⟨μm, D₀ :: h1'⟩ H ∧ H D₀ = some (.dK (kk.zip vacc)) ∧ kk.length = vacc.length ∧ Reps g ⟨μm, D₀ :: h1'⟩ H acc vacc ∧ kk.length ≤ i ∧
      Post g W σ ⟨m1, h1'⟩ H1 (dcD gt ft fk fe gd (ds.drop i) (wipeE env vs) st kk acc) (VP g Q),
    ⟨ds.length, by simp, Nat.zero_le _, m1, st1, [], [], [], le_new S1 hD, S1.hideV (.k []) hD, E1.lw (lw_hide S1 hD), hJ.le (lw_hide S1 hD), upd_same, rfl, rfl, Nat.zero_le _, h1⟩, ?_⟩
  rintro i m H ⟨rfl, hi, μm, st, kk, acc, vacc, L, S, E, hJ, hH, hkl, ra, hal, q⟩
  by_cases hlt : i < ds.length
  · rw [List.drop_eq_getElem_cons hlt] at q
    have q : Post g W σ ⟨m1, h1'⟩ H1 (if gdOk gd st = true then (match gt ds[i] (wipeE env vs) with
      | none => R.bad
      | some env1 => (ft env1 st).b fun b st => if b = true then (fk env1 st).b fun y st => (fe env1 st).b fun x st => (match keyD y with
        | some k => dcD gt ft fk fe gd (ds.drop (i + 1)) (wipeE env vs) st (putKs kk k) (putDs kk acc k x)
        | none => .bad) else dcD gt ft fk fe gd (ds.drop (i + 1)) (wipeE env vs) st kk acc) else R.bad) (VP g Q) := q
    split at q
    · rename_i hgd
      obtain ⟨hgo, hy⟩ := (hJ ⟨μm, D₀ :: h1'⟩ H st Lw.refl S hgd).1 i ds[i] (List.getElem?_eq_getElem hlt)
      refine .inr ⟨hgo, fun H' => ds.length - (i + 1) = ds.length - (i + 1) ∧ i + 1 ≤ ds.length ∧ ∃ (μm : List Addr) (st : Store) (kk : List Key) (acc : List D) (vacc : List V), Le ⟨m1, h1'⟩ H1 ⟨μm, h1'⟩ H' ∧ RelS g ⟨μm, D₀ :: h1'⟩ H' st ∧ RelE g ⟨μm, D₀ :: h1'⟩ H' env σ ∧ ItOk g J ds gd ⟨μm, D₀ :: h1'⟩ H' ∧ H' D₀ = some (.dK (kk.zip vacc)) ∧ kk.length = vacc.length ∧ Reps g ⟨μm, D₀ :: h1'⟩ H' acc vacc ∧ kk.length ≤ i + 1 ∧
        Post g W σ ⟨m1, h1'⟩ H1 (dcD gt ft fk fe gd (ds.drop (i + 1)) (wipeE env vs) st kk acc) (VP g Q), fun H' w => ⟨ds.length - (i + 1), by omega, w⟩, fun x H' y => ?_⟩
      obtain ⟨Lb, S2, r2⟩ := hy x H' y
      cases e : gt ds[i] (wipeE env vs) with
      | none => rw [e] at q; exact q.elim
      | some env2 =>
        rw [e] at q
        refine ⟨⟨μm, D₀ :: h1'⟩, wipeE env vs, st, ds[i], S2, (E.le Lb).wipe vs, r2, env2, e, fun σ2 E2 bt => ⟨bt.wipe hv, ⟨μm, D₀ :: h1'⟩, env2, st, S2, E2, ?_⟩⟩
        have q : Post g W σ ⟨m1, h1'⟩ H1 ((ft env2 st).b fun b st => if b = true then (fk env2 st).b fun y st => (fe env2 st).b fun x st => (match keyD y with
          | some k => dcD gt ft fk fe gd (ds.drop (i + 1)) (wipeE env vs) st (putKs kk k) (putDs kk acc k x)
          | none => .bad) else dcD gt ft fk fe gd (ds.drop (i + 1)) (wipeE env vs) st kk acc) (VP g Q) := q
        generalize ft env2 st = rt at q ⊢
        cases rt with
        | ex c st3 => exact q.elim
        | bad => exact q.elim
        | ok bb st3 =>
          intro μ3 H3 L3 S3
          obtain ⟨m3, h3⟩ := μ3
          obtain rfl : h3 = D₀ :: h1' := L3.hh
          have L23 := Lb.trans L3
          cases bb with
          | false =>
            rw [if_neg Bool.false_ne_true]
            exact ⟨rfl, hlt, m3, st3, kk, acc, vacc, le_over rfl hD L L23.toLw (fun a ha => L23.hk a (List.mem_cons_of_mem _ ha)), S3, E.le L23, hJ.le L23.toLw, (L23.hk D₀ List.mem_cons_self).trans hH, hkl, ra.le L23, by omega, q⟩
          | true =>
            rw [if_pos rfl]
            refine ⟨⟨m3, D₀ :: h1'⟩, env2, st3, S3, E2.le L3, ?_⟩
            have q : Post g W σ ⟨m1, h1'⟩ H1 ((fk env2 st3).b fun y st => (fe env2 st).b fun x st => (match keyD y with
              | some k => dcD gt ft fk fe gd (ds.drop (i + 1)) (wipeE env vs) st (putKs kk k) (putDs kk acc k x)
              | none => .bad)) (VP g Q) := q
            generalize fk env2 st3 = rk at q ⊢
            cases rk with
            | ex c st4 => exact q.elim
            | bad => exact q.elim
            | ok kd st4 =>
              intro μ4 H4 L4 S4 w rw_
              obtain ⟨m4, h4⟩ := μ4
              obtain rfl : h4 = D₀ :: h1' := L4.hh
              refine ⟨⟨m4, D₀ :: h1'⟩, env2, st4, S4, (E2.le L3).le L4, ?_⟩
              have q : Post g W σ ⟨m1, h1'⟩ H1 ((fe env2 st4).b fun x st => (match keyD kd with
                | some k => dcD gt ft fk fe gd (ds.drop (i + 1)) (wipeE env vs) st (putKs kk k) (putDs kk acc k x)
                | none => .bad)) (VP g Q) := q
              generalize fe env2 st4 = re at q ⊢
              cases re with
              | ex c st5 => exact q.elim
              | bad => exact q.elim
              | ok y st5 =>
                intro μ5 H5 L5 S5 v rv
                obtain ⟨m5, h5⟩ := μ5
                obtain rfl : h5 = D₀ :: h1' := L5.hh
                have L24 := (L23.trans L4).trans L5
                have h5D : H5 D₀ = some (.dK (kk.zip vacc)) := (L24.hk D₀ List.mem_cons_self).trans hH
                have q : Post g W σ ⟨m1, h1'⟩ H1 (match keyD kd with
                  | some k => dcD gt ft fk fe gd (ds.drop (i + 1)) (wipeE env vs) st5 (putKs kk k) (putDs kk acc k y)
                  | none => .bad) (VP g Q) := q
                cases ek : keyD kd with
                | none => rw [ek] at q; exact q.elim
                | some ky =>
                  rw [ek] at q
                  obtain ⟨ws, w1, w2, w3⟩ := put_keys (g := g) kk vacc ky v hkl
                  have gr := le_grow (μ := ⟨m5, h1'⟩) (p := D₀) (o := .dK ((putKs kk ky).zip ws)) S5
                  have L25 := L24.toLw.trans gr
                  refine ⟨kk.zip vacc, ky, keyD_ok rw_ ek, h5D, ?_, ?_⟩
                  · rw [List.length_zip, sizeLine_eq]
                    omega
                  · rw [w1]
                    refine ⟨rfl, hlt, m5, st5, putKs kk ky, putDs kk acc ky y, ws, le_over rfl hD L L25 (fun a ha => (L2.upd_ne (nD a ha)).trans (L24.hk a (List.mem_cons_of_mem _ ha))), (RelS.growV (μ := ⟨m5, h1'⟩) (.k (kk.zip vacc)) (.k ((putKs kk ky).zip ws)) S5 h5D), E.lw L25, hJ.le L25, upd_same, w2.symm, w3 acc y _ _ (ra.lw L25) (rv.lw gr), ?_, q⟩
                    have := putKs_len kk ky
                    omega
    · exact q.elim
  · have hi2 : i = ds.length := by omega
    subst hi2
    rw [List.drop_length] at q
    have q : Post g W σ ⟨m1, h1'⟩ H1 (if gdOk gd st = true then R.ok (.dic (kk.map .k) acc) st else .bad) (VP g Q) := q
    split at q
    · rename_i hgd
      refine .inl ⟨(hJ _ H st Lw.refl S hgd).2, ?_⟩
      exact q ⟨μm, h1'⟩ H L (RelS.show (μ := ⟨μm, h1'⟩) S) _ ⟨D₀, vacc, _, rfl, ⟨(S.hid D₀ List.mem_cons_self).1, nD'⟩, .inl hH, .inl ⟨kk, keysK_map kk, rfl⟩, by rw [List.length_map]; exact hkl, ra.lw (lw_show (μ := ⟨μm, h1'⟩))⟩
    · exact q.elim
theorem pd_dc {kx vx tg iter : Expr} {ifs : List Expr} {scope : Scope} {own : List (Str × Nat)} {fi : DI} {is : List Nat} {gt : DG} {ft : DT} {fk fe : DE} (O : Ok X g W k) (hi : PID X g W tg iter fi) (ok : BlkOk X.N X.env.scope scope own)
    (hg : ∀ (s : Shared) (H : Hp) (C : Addr) (cl : List (Str × Addr)) (fp : List Addr), PGD (X.blk s H scope (compEnvC scope cl C X.env) fp) g tg is gt) (ht : ∀ (s : Shared) (H : Hp) (C : Addr) (cl : List (Str × Addr)) (fp : List Addr), PTsD (X.blk s H scope (compEnvC scope cl C X.env) fp) g W0 ifs ft)
    (hk : ∀ (s : Shared) (H : Hp) (C : Addr) (cl : List (Str × Addr)) (fp : List Addr), PD (X.blk s H scope (compEnvC scope cl C X.env) fp) g W0 kx fk)
    (he : ∀ (s : Shared) (H : Hp) (C : Addr) (cl : List (Str × Addr)) (fp : List Addr), PD (X.blk s H scope (compEnvC scope cl C X.env) fp) g W0 vx fe) (hs : ∀ x, foldedSetIterable iter X.env x = pure x := by intro _; rfl) (hv : ∀ i ∈ is, i ∈ own.map (·.2) := by decide) :
    PD X g W (.DictComp kx vx [⟨tg, iter, ifs, 0⟩] scope pos) (dDc fi gt ft fk fe (own.map (·.2))) :=
  PE.imp (pe_dc O.calm O.nd hi ok hg ht hk he hs) fun σ H Q ⟨μ, env, st, S, E, q⟩ => by
    refine bindI S E q fun μ1 H1 p st1 J L1 S1 E1 hJ h1 => ?_
    split at h1
    · rename_i hl
      exact fun D hD => dc_ok S1 E1 hJ hv hl h1 D hD
    · exact h1.elim
/-! ### sorted of a dict with int keys -/
def intKs : List HK → Option (List Int)
  | [] => some []
  | .k (.inl i) :: r => (intKs r).map (i :: ·)
  | _ :: _ => none
theorem intKs_ok : ∀ {ks : List HK} {ns : List Int}, intKs ks = some ns → keysK ks = some (ns.map .inl)
  | [], ns, e => by cases e; rfl
  | .k (.inl i) :: r, ns, e => by
    have e : (intKs r).map (i :: ·) = some ns := e
    cases q : intKs r with
    | none => rw [q] at e; cases e
    | some ms =>
      rw [q] at e
      cases e
      show (keysK r).map _ = _
      rw [intKs_ok q]
      rfl
  | .k (.inr i) :: r, ns, e => by cases e
  | .t x :: r, ns, e => by cases e
theorem keysT_int : ∀ {ks : List HK} {ns : List Int} {kk : List (List Key)}, intKs ks = some ns → keysT ks = some kk → kk = []
  | [], ns, kk, e, h => by cases h; rfl
  | .k x :: r, ns, kk, e, h => by cases h
  | .t x :: r, ns, kk, e, h => by cases e
def bSortedK (b : Bool) : List D → Store → R D := fun ds st => match ds with
  | [d] => (match d with
    | .dic ks _ => (match intKs ks with
      | some ns => if ns.length < 64 then mkL b ((sortI ns).map .int) st else .bad
      | none => .bad)
    | _ => .bad)
  | _ => .bad
theorem cSortedK {b : Bool} (O : Ok X g W k) : CallD X g W (.builtin "sorted") (bSortedK b) := call1 (call_sortedDI O.calm) fun σ μ H st d v Q S r q => by
  split at q
  · rename_i ks vs
    split at q
    · rename_i ns hn
      split at q
      · rename_i hl
        obtain ⟨a, ws, o, e, n, rd, dO, hlen, rv⟩ := r
        have hk := intKs_ok hn
        rcases dO with ⟨kk, e1, e2⟩ | ⟨kk, e1, e2, e3⟩
        · rw [hk] at e1
          cases e1
          subst e2
          have hlen2 : (ns.map (Sum.inl : Int → Key)).length = ws.length := by
            rw [← hlen]
            have : ∀ {ks : List HK} {kk : List Key}, keysK ks = some kk → kk.length = ks.length := by
              intro ks
              induction ks with
              | nil => intro kk e; cases e; rfl
              | cons k ks ih =>
                intro kk e
                cases k with
                | k x =>
                  have e : (keysK ks).map (x :: ·) = some kk := e
                  cases q : keysK ks with
                  | none => rw [q] at e; cases e
                  | some ms => rw [q] at e; cases e; simp [ih q]
                | t x => cases e
            exact this hk
          refine ⟨a, _, ns, by rw [e], rd, ?_, hl, fun ys p hp hs hnn => ?_⟩
          · rw [List.map_fst_zip (by omega)]
          · rw [sortI_eq hp hs]
            exact mkL_ok S (reps_ints _) q hnn
        · exact absurd (keysT_int hn e1) e2
      · exact q.elim
    · exact q.elim
  · exact q.elim
/-! ### list.index -/
def dIndex (fo fe : DE) : DE := fun env st => (fo env st).bind fun o st => match seqL st o with
  | some _ => (fe env st).bind fun d st => (match seqL st o with
    | some ds => if d.isSc = true ∧ ds.all D.isSc = true then (match ds.findIdx? fun e => D.eqv e d with
      | some j => .ok (.int (j : Nat)) st
      | none => .bad) else .bad
    | none => .bad)
  | none => .bad
theorem pd_index {o e : Expr} {fo fe : DE} {apos cpos : Pos} (O : Ok X g W k) (ho : PD X g W o fo) (he : PD X g W e fe) (hbase : attributeBase o "index" X.env (eval o X.env) = eval o X.env := by rfl)
    (hfew : ((backTo cpos (starEach [e] X.env)).all (fun x => !x.1) && (backToKw cpos (keywordEach [] X.env)).all (fun x => x.1.isSome)
      && decide ([e].length + ([] : List Keyword).length + (if ([] : List Keyword).isEmpty then 0 else 1) < 30)) = true := by rfl)
    (hline : (apos.endLine == cpos.line) = true := by rfl) (hs : starEach [e] X.env = (false, eval e X.env) :: starEach [] X.env := by rfl) :
    PD X g W (.Call (.Attribute o "index" apos) [e] [] cpos) (dIndex fo fe) :=
  PE.imp (pe_bm PySem.F.plainAttrs_list PySem.F.slot_list_index PySem.F.type_list_index mt_index ho (L2.pa_cons he L2.pa_nil hs) hbase hfew hline hs rfl) fun σ H Q ⟨μ, env, st, S, E, h⟩ => by
    refine bindE S E h fun μ1 H1 od st1 ov L1 S1 E1 r1 h1 => ?_
    split at h1
    · rename_i ds0 e0
      obtain ⟨a, vs0, ea, q0, _⟩ := seqL_ok S1 r1 e0
      subst ea
      refine ⟨.inl ⟨rfl, vs0, by rw [O.hK]; exact q0⟩, ?_⟩
      refine bindE S1 E1 h1 fun μ2 H2 d st2 v L2' S2 E2 r2 h2 => ?_
      split at h2
      · rename_i ds e2
        split at h2
        · rename_i hh
          split at h2
          · rename_i j hj
            obtain ⟨a2, vs, ea2, q2, r3⟩ := seqL_ok S2 (r1.le L2') e2
            cases ea2
            obtain ⟨hjl, hj1, hj2⟩ := List.findIdx?_eq_some_iff_getElem.mp hj
            obtain ⟨z, hz, rz⟩ := r3.get (List.getElem?_eq_getElem hjl)
            have hall := List.all_eq_true.mp hh.2
            refine ⟨a, vs, v, j, z, rfl, rfl, by rw [O.hK]; exact q2, flat_ok r2 hh.1, flats_ok r3 hh.2, hz, ?_, fun m z' hm hz' => ?_, h2.here S2 _ rfl⟩
            · rw [eqv_ok rz r2 (hall _ (List.getElem_mem hjl)) hh.1]
              exact hj1
            · have hml : m < ds.length := by omega
              obtain ⟨z2, hz2, rz2⟩ := r3.get (List.getElem?_eq_getElem hml)
              rw [hz'] at hz2
              cases hz2
              rw [eqv_ok rz2 r2 (hall _ (List.getElem_mem hml)) hh.1]
              simpa using hj2 m hm
          · exact h2.elim
        · exact h2.elim
      · exact h2.elim
    · exact h1.elim
/-! ### max, min of a list or a tuple of ints -/
theorem cr_maxT (hc : X.calm = true) : CallR X (.builtin "max") (fun vs H Q => ∃ (a : Addr) (ns : List Int), vs = [V.ref a] ∧ SqT X.K H a (ns.map V.int) ∧ 0 < ns.length ∧ ∀ m, m ∈ ns → (∀ y, y ∈ ns → y ≤ m) → Q (.int m) H) := by
  intro pins s σ H vs us Q I r h
  obtain ⟨a, ns, rfl, hs, hne, q⟩ := h
  obtain ⟨u, rfl, ru⟩ := vals1 r
  obtain rfl : u = Value.ref a := ru
  obtain ⟨its, rv, pt, _⟩ := I.tuple hs
  have pt' : s.heap.IsTuple a its.toArray := pt
  have hlt : a < s.heap.objs.size := pt.lt
  have hi := intsAre_of rv
  obtain ⟨xs, e⟩ := hi.allInts.items
  have hn : numsOf (intItems xs).toList = ns := by rw [← e]; exact hi.numsOf
  rw [nums_intItems] at hn
  subst hn
  have hsz : 0 < xs.size := by simpa using hne
  rw [e] at pt'
  refine call_max_walk (wpAny_pyIter_tuple pt' ⟨s.heap.objs.size, _, _, _, _, _, _, rfl, Walks.tuple (A := X.A.in1) (I.ok.hd hc) s.heap.objs.size a (Nat.ne_of_lt hlt) (intItems xs), ⟨⟨_, Heap.get?_push_size _ rfl, rfl, rfl⟩, ?_⟩, fun b hb => ?_, by simpa [intItems] using hsz, CmpOf.ints_gt (numAt xs) (fun _ _ => intItems_at), fun v h' tk hP hk => ?_⟩)
  · exact pt'.at fun o e => Heap.get?_push_of_some _ e
  · show b < (s.heap.push _).objs.size
    rw [Heap.size_push]
    rcases List.mem_cons.mp hb with z | z
    · rw [z]; exact Nat.lt_succ_self _
    · rw [List.mem_singleton.mp z]; exact Nat.lt_succ_of_lt hlt
  · have hP : (intItems xs)[argBest (fun i j => decide (numAt xs i > numAt xs j)) (xs.size - 1)]? = some v := by simpa [intItems] using hP
    obtain ⟨t, rfl⟩ := intItems_at hP
    obtain ⟨h1, h2⟩ := argBest_gt (numAt xs) (xs.size - 1)
    refine ⟨.int _, H, I.kept fun b o e => hk b o (by simp; intro z; rw [z] at e; exact Nat.lt_irrefl _ (Heap.lt_size e)) (Heap.get?_push_of_some _ e), ⟨t, rfl⟩, q _ ?_ fun y hy => ?_⟩
    · rw [numAt_eq]; exact PySem.getD_mem (by rw [List.length_map, Array.length_toList]; omega)
    · obtain ⟨j, hj, rfl⟩ := mem_getD hy
      rw [List.length_map, Array.length_toList] at hj
      rw [← numAt_eq]; exact h2 j (by omega)
def bMaxA : List D → Store → R D := fun ds st => match ds with
  | [d] => (match seqA st d with
    | some ds => (match (intsD ds).bind maxI with
      | some n => .ok (.int n) st
      | none => .bad)
    | none => .bad)
  | _ => .bad
theorem cMaxA (O : Ok X g W k) : CallD X g W (.builtin "max") bMaxA := call1 (callR_or (cr_max O.calm) (cr_maxT O.calm)) fun σ μ H st d v Q S r q => by
  rw [O.hK]
  split at q
  · rename_i ds hs
    split at q
    · rename_i n hn
      obtain ⟨a, vs, e, h1, r1⟩ := seqA_ok S r hs
      cases hi : intsD ds with
      | none => rw [hi] at hn; cases hn
      | some ns =>
        rw [hi] at hn
        have e2 := ints_ok hi r1
        subst e2
        cases ns with
        | nil => cases hn
        | cons m ns =>
          cases hn
          obtain ⟨f1, f2, f3⟩ := foldl_max ns m
          have fin : ∀ x, x ∈ m :: ns → (∀ y, y ∈ m :: ns → y ≤ x) → Q (.int x) H := fun x hx hy => by
            have hx1 : ns.foldl max m ∈ m :: ns := f1.elim (fun z => by rw [z]; exact List.mem_cons_self) (List.mem_cons_of_mem _)
            have a1 := hy _ hx1
            have a2 : x ≤ ns.foldl max m := (List.mem_cons.mp hx).elim (fun z => by rw [z]; exact f2) (f3 x)
            rw [show x = ns.foldl max m by omega]
            exact q.here S _ rfl
          rcases h1 with h1 | h1
          · exact .inl ⟨a, m :: ns, by rw [e], h1, Nat.succ_pos _, fin⟩
          · exact .inr ⟨a, m :: ns, by rw [e], h1, Nat.succ_pos _, fin⟩
    · exact q.elim
  · exact q.elim
end
end G
namespace G
open PySem L2
/-! ### comprehensions within comprehensions: the scope as it stands there -/
def relS (o i : Scope) : Scope := { i with names := i.names.map fun x => if (x.2 == .free && o.kind == .function && o.names.lookup x.1 == some .cell) = true then (x.1, .cell) else (x.1, x.2) }
theorem relabel_eq (l : Scope) (e : PySem.Env) : relabel l e = relS e.scope l := rfl
end G

namespace K02
open PySem G
open L2 (FnScope defScope defBody defArgs blkOk_by sw_true Cx XK Hp Binds Fun)
def topS (i : Nat) : Stmt := PySem.Challenge.pw_clockstack_k02_weeks_and_their_days.main.body.getD i (.Pass ⟨0, 0, 0, 0⟩)
def c_MONTH_LENGTHS : D := (.tup [(.int 31), (.int 28), (.int 31), (.int 30), (.int 31), (.int 30), (.int 31), (.int 31), (.int 30), (.int 31), (.int 30), (.int 31)])
def c_MOST_YEAR : D := (.int 9999)
abbrev s_is_leap : Stmt := topS 7
theorem sc_is_leap : FnScope ["year"] ["year"] (defScope s_is_leap) := ⟨rfl, rfl, rfl, by decide +kernel, rfl, by decide +kernel, by decide +kernel⟩
abbrev s_days_in_month : Stmt := topS 8
theorem sc_days_in_month : FnScope ["year", "month", "leap"] ["year", "month"] (defScope s_days_in_month) := ⟨rfl, rfl, rfl, by decide +kernel, rfl, by decide +kernel, by decide +kernel⟩
abbrev s_check_date : Stmt := topS 9
theorem sc_check_date : FnScope ["date", "year", "month", "day"] ["date"] (defScope s_check_date) := ⟨rfl, rfl, rfl, by decide +kernel, rfl, by decide +kernel, by decide +kernel⟩
abbrev s_days_before_year : Stmt := topS 10
theorem sc_days_before_year : FnScope ["year", "past"] ["year"] (defScope s_days_before_year) := ⟨rfl, rfl, rfl, by decide +kernel, rfl, by decide +kernel, by decide +kernel⟩
abbrev s_day_number : Stmt := topS 11
theorem sc_day_number : FnScope ["date", "year", "month", "day", "ahead"] ["date"] (defScope s_day_number) := ⟨rfl, rfl, rfl, by decide +kernel, rfl, by decide +kernel, by decide +kernel⟩
abbrev s_check_number : Stmt := topS 12
theorem sc_check_number : FnScope ["number"] ["number"] (defScope s_check_number) := ⟨rfl, rfl, rfl, by decide +kernel, rfl, by decide +kernel, by decide +kernel⟩
abbrev s_date_of : Stmt := topS 13
theorem sc_date_of : FnScope ["number", "year", "left", "month", "leap", "long"] ["number"] (defScope s_date_of) := ⟨rfl, rfl, rfl, by decide +kernel, rfl, by decide +kernel, by decide +kernel⟩
abbrev s_weekday_of : Stmt := topS 14
theorem sc_weekday_of : FnScope ["number"] ["number"] (defScope s_weekday_of) := ⟨rfl, rfl, rfl, by decide +kernel, rfl, by decide +kernel, by decide +kernel⟩
abbrev s_check_weekday : Stmt := topS 16
theorem sc_check_weekday : FnScope ["weekday"] ["weekday"] (defScope s_check_weekday) := ⟨rfl, rfl, rfl, by decide +kernel, rfl, by decide +kernel, by decide +kernel⟩
abbrev s_week_of : Stmt := topS 17
theorem sc_week_of : FnScope ["date", "number", "weekday", "middle", "year"] ["date"] (defScope s_week_of) := ⟨rfl, rfl, rfl, by decide +kernel, rfl, by decide +kernel, by decide +kernel⟩
abbrev s_first_week : Stmt := topS 18
theorem sc_first_week : FnScope ["year", "fourth"] ["year"] (defScope s_first_week) := ⟨rfl, rfl, rfl, by decide +kernel, rfl, by decide +kernel, by decide +kernel⟩
abbrev s_weeks_in_year : Stmt := topS 19
theorem sc_weeks_in_year : FnScope ["year"] ["year"] (defScope s_weeks_in_year) := ⟨rfl, rfl, rfl, by decide +kernel, rfl, by decide +kernel, by decide +kernel⟩
abbrev s_by_week : Stmt := topS 20
theorem sc_by_week : FnScope ["year", "week", "weekday"] ["year", "week", "weekday"] (defScope s_by_week) := ⟨rfl, rfl, rfl, by decide +kernel, rfl, by decide +kernel, by decide +kernel⟩
abbrev s_nth_weekday : Stmt := topS 21
theorem sc_nth_weekday : FnScope ["year", "month", "place", "weekday", "long", "first", "days"] ["year", "month", "place", "weekday"] (defScope s_nth_weekday) := ⟨rfl, rfl, rfl, by decide +kernel, rfl, by decide +kernel, by decide +kernel⟩
abbrev s_on_or_behind : Stmt := topS 22
theorem sc_on_or_behind : FnScope ["date", "weekday", "number"] ["date", "weekday"] (defScope s_on_or_behind) := ⟨rfl, rfl, rfl, by decide +kernel, rfl, by decide +kernel, by decide +kernel⟩
abbrev s_on_or_ahead : Stmt := topS 23
theorem sc_on_or_ahead : FnScope ["date", "weekday", "number"] ["date", "weekday"] (defScope s_on_or_ahead) := ⟨rfl, rfl, rfl, by decide +kernel, rfl, by decide +kernel, by decide +kernel⟩
abbrev s_month_rows : Stmt := topS 24
theorem sc_month_rows : FnScope ["year", "month", "first", "long", "ahead", "cells", "place"] ["year", "month", "first"] (defScope s_month_rows) := ⟨rfl, rfl, rfl, by decide +kernel, rfl, by decide +kernel, by decide +kernel⟩
abbrev s_count_weekdays : Stmt := topS 25
theorem sc_count_weekdays : FnScope ["one", "other", "weekdays", "weekday", "first", "last", "found", "start"] ["one", "other", "weekdays"] (defScope s_count_weekdays) := ⟨rfl, rfl, rfl, by decide +kernel, rfl, by decide +kernel, by decide +kernel⟩
abbrev s_same_calendar : Stmt := topS 26
theorem sc_same_calendar : FnScope ["year", "other", "ends", "one"] ["year", "other"] (defScope s_same_calendar) := ⟨rfl, rfl, rfl, by decide +kernel, rfl, by decide +kernel, by decide +kernel⟩
abbrev s_weeks_from : Stmt := topS 27
theorem sc_weeks_from : FnScope ["one", "other", "starts", "date"] ["one", "other"] (defScope s_weeks_from) := ⟨rfl, rfl, rfl, by decide +kernel, rfl, by decide +kernel, by decide +kernel⟩
abbrev s__law_dice : Stmt := topS 29
theorem sc__law_dice : FnScope ["cell"] ["cell"] (defScope s__law_dice) := ⟨rfl, rfl, rfl, by decide +kernel, rfl, by decide +kernel, by decide +kernel⟩
abbrev s__law_roll : Stmt := topS 30
theorem sc__law_roll : FnScope ["dice", "many", "found"] ["dice", "many"] (defScope s__law_roll) := ⟨rfl, rfl, rfl, by decide +kernel, rfl, by decide +kernel, by decide +kernel⟩
abbrev s__law_rounds : Stmt := topS 31
theorem sc__law_rounds : FnScope ["script", "most", "cells", "cell"] ["script", "most"] (defScope s__law_rounds) := ⟨rfl, rfl, rfl, by decide +kernel, rfl, by decide +kernel, by decide +kernel⟩
abbrev s__law_told : Stmt := topS 32
theorem sc__law_told : FnScope ["what"] ["what"] (defScope s__law_told) := ⟨rfl, rfl, rfl, by decide +kernel, rfl, by decide +kernel, by decide +kernel⟩
abbrev s__law_date : Stmt := topS 33
theorem sc__law_date : FnScope ["dice", "year", "month"] ["dice"] (defScope s__law_date) := ⟨rfl, rfl, rfl, by decide +kernel, rfl, by decide +kernel, by decide +kernel⟩
abbrev s__law_week : Stmt := topS 34
theorem sc__law_week : FnScope ["date", "number", "weekday", "days", "k", "year", "one", "other", "start", "week"] ["date"] (defScope s__law_week) := ⟨rfl, rfl, rfl, by decide +kernel, rfl, by decide +kernel, by decide +kernel⟩
abbrev s__law_plain : Stmt := topS 35
theorem sc__law_plain : FnScope ["bad", "f"] [] (defScope s__law_plain) := ⟨rfl, rfl, rfl, by decide +kernel, rfl, by decide +kernel, by decide +kernel⟩
abbrev s_law : Stmt := topS 36
theorem sc_law : FnScope ["script", "dice", "date", "other", "year", "week", "weekday", "ends", "day", "last", "one", "days", "wanted", "place", "same", "due", "number", "behind", "ahead", "k", "rows", "flat", "row", "some", "far", "end", "alike"] ["script"] (defScope s_law) := ⟨rfl, rfl, rfl, by decide +kernel, rfl, by decide +kernel, by decide +kernel⟩
def lam_0 : LamI := lamI ((("_law_plain" : Str) ++ ".<locals>.") ++ "<lambda>") (listElt ((defBody s__law_plain).getD 0 (.Pass ⟨0, 0, 0, 0⟩)) 0)
def lam_1 : LamI := lamI ((("_law_plain" : Str) ++ ".<locals>.") ++ "<lambda>") (listElt ((defBody s__law_plain).getD 0 (.Pass ⟨0, 0, 0, 0⟩)) 1)
def lam_2 : LamI := lamI ((("_law_plain" : Str) ++ ".<locals>.") ++ "<lambda>") (listElt ((defBody s__law_plain).getD 0 (.Pass ⟨0, 0, 0, 0⟩)) 2)
def lam_3 : LamI := lamI ((("_law_plain" : Str) ++ ".<locals>.") ++ "<lambda>") (listElt ((defBody s__law_plain).getD 0 (.Pass ⟨0, 0, 0, 0⟩)) 3)
def lam_4 : LamI := lamI ((("_law_plain" : Str) ++ ".<locals>.") ++ "<lambda>") (listElt ((defBody s__law_plain).getD 0 (.Pass ⟨0, 0, 0, 0⟩)) 4)
def lam_5 : LamI := lamI ((("_law_plain" : Str) ++ ".<locals>.") ++ "<lambda>") (listElt ((defBody s__law_plain).getD 0 (.Pass ⟨0, 0, 0, 0⟩)) 5)
def lam_6 : LamI := lamI ((("_law_plain" : Str) ++ ".<locals>.") ++ "<lambda>") (listElt ((defBody s__law_plain).getD 0 (.Pass ⟨0, 0, 0, 0⟩)) 6)
def lam_7 : LamI := lamI ((("_law_plain" : Str) ++ ".<locals>.") ++ "<lambda>") (listElt ((defBody s__law_plain).getD 0 (.Pass ⟨0, 0, 0, 0⟩)) 7)
def lam_8 : LamI := lamI ((("_law_plain" : Str) ++ ".<locals>.") ++ "<lambda>") (listElt ((defBody s__law_plain).getD 0 (.Pass ⟨0, 0, 0, 0⟩)) 8)
def lam_9 : LamI := lamI ((("_law_plain" : Str) ++ ".<locals>.") ++ "<lambda>") (listElt ((defBody s__law_plain).getD 0 (.Pass ⟨0, 0, 0, 0⟩)) 9)
def lam_10 : LamI := lamI ((("_law_plain" : Str) ++ ".<locals>.") ++ "<lambda>") (listElt ((defBody s__law_plain).getD 0 (.Pass ⟨0, 0, 0, 0⟩)) 10)
def lam_11 : LamI := lamI ((("_law_plain" : Str) ++ ".<locals>.") ++ "<lambda>") (listElt ((defBody s__law_plain).getD 0 (.Pass ⟨0, 0, 0, 0⟩)) 11)
def lam_12 : LamI := lamI ((("_law_plain" : Str) ++ ".<locals>.") ++ "<lambda>") (listElt ((defBody s__law_plain).getD 0 (.Pass ⟨0, 0, 0, 0⟩)) 12)
/-- what is known of the text -/
structure Txt (g : GC) (mg : Str → Option Value) : Prop where
  catch_WeekError : Catches g "WeekError" [("WeekError", true)]
  e_DayError : ExD g mg "DayError"
  e_WeekError : ExD g mg "WeekError"
  g_MONTH_LENGTHS : Glob g mg "MONTH_LENGTHS" c_MONTH_LENGTHS
  g_MOST_YEAR : Glob g mg "MOST_YEAR" c_MOST_YEAR
  n_abs : mg "abs" = none
  n_enumerate : mg "enumerate" = none
  n_int : mg "int" = none
  n_len : mg "len" = none
  n_list : mg "list" = none
  n_max : mg "max" = none
  n_range : mg "range" = none
  n_sorted : mg "sorted" = none
  n_sum : mg "sum" = none
  n_tuple : mg "tuple" = none
  told : ToldD g mg "_law_told" "WeekError" "WeekError"
  c_told : Catches g "WeekError" [("WeekError", true)]
  l_0 : g.lam 0 = some lam_0
  l_1 : g.lam 1 = some lam_1
  l_2 : g.lam 2 = some lam_2
  l_3 : g.lam 3 = some lam_3
  l_4 : g.lam 4 = some lam_4
  l_5 : g.lam 5 = some lam_5
  l_6 : g.lam 6 = some lam_6
  l_7 : g.lam 7 = some lam_7
  l_8 : g.lam 8 = some lam_8
  l_9 : g.lam 9 = some lam_9
  l_10 : g.lam 10 = some lam_10
  l_11 : g.lam 11 = some lam_11
  l_12 : g.lam 12 = some lam_12
  lam_no : ∀ n, 13 ≤ n → g.lam n = none
  d_is_leap : DefD g mg "is_leap" s_is_leap ["year"]
  d_days_in_month : DefD g mg "days_in_month" s_days_in_month ["year", "month"]
  d_check_date : DefD g mg "check_date" s_check_date ["date"]
  d_days_before_year : DefD g mg "days_before_year" s_days_before_year ["year"]
  d_day_number : DefD g mg "day_number" s_day_number ["date"]
  d_check_number : DefD g mg "check_number" s_check_number ["number"]
  d_date_of : DefD g mg "date_of" s_date_of ["number"]
  d_weekday_of : DefD g mg "weekday_of" s_weekday_of ["number"]
  d_check_weekday : DefD g mg "check_weekday" s_check_weekday ["weekday"]
  d_week_of : DefD g mg "week_of" s_week_of ["date"]
  d_first_week : DefD g mg "first_week" s_first_week ["year"]
  d_weeks_in_year : DefD g mg "weeks_in_year" s_weeks_in_year ["year"]
  d_by_week : DefD g mg "by_week" s_by_week ["year", "week", "weekday"]
  d_nth_weekday : DefD g mg "nth_weekday" s_nth_weekday ["year", "month", "place", "weekday"]
  d_on_or_behind : DefD g mg "on_or_behind" s_on_or_behind ["date", "weekday"]
  d_on_or_ahead : DefD g mg "on_or_ahead" s_on_or_ahead ["date", "weekday"]
  d_month_rows : DefL g mg "month_rows" s_month_rows ["year", "month", "first"]
  mT_month_rows : ((g.cp "month_rows").2, (("month_rows" : Str) ++ ".<locals>.") ++ "<genexpr>") ∈ g.T
  hu_month_rows : ∀ p ∈ g.T, p.1 = (g.cp "month_rows").2 → p.2 = (("month_rows" : Str) ++ ".<locals>.") ++ "<genexpr>"
  d_count_weekdays : DefD g mg "count_weekdays" s_count_weekdays ["one", "other", "weekdays"]
  d_same_calendar : DefD g mg "same_calendar" s_same_calendar ["year", "other"]
  d_weeks_from : DefD g mg "weeks_from" s_weeks_from ["one", "other"]
  d__law_dice : DefD g mg "_law_dice" s__law_dice ["cell"]
  d__law_roll : DefD g mg "_law_roll" s__law_roll ["dice", "many"]
  d__law_rounds : DefD g mg "_law_rounds" s__law_rounds ["script", "most"]
  d__law_told : DefD g mg "_law_told" s__law_told ["what"]
  d__law_date : DefD g mg "_law_date" s__law_date ["dice"]
  d__law_week : DefD g mg "_law_week" s__law_week ["date"]
  d__law_plain : DefL g mg "_law_plain" s__law_plain []
  mT__law_plain : ((g.cp "_law_plain").2, (("_law_plain" : Str) ++ ".<locals>.") ++ "<lambda>") ∈ g.T
  hu__law_plain : ∀ p ∈ g.T, p.1 = (g.cp "_law_plain").2 → p.2 = (("_law_plain" : Str) ++ ".<locals>.") ++ "<lambda>"
  mT_law : ((g.cp "law").2, (("law" : Str) ++ ".<locals>.") ++ "<lambda>") ∈ g.T
  hu_law : ∀ p ∈ g.T, p.1 = (g.cp "law").2 → p.2 = (("law" : Str) ++ ".<locals>.") ++ "<lambda>"
structure Tbs (g : GC) (mg : Str → Option Value) (base : Heap) : Prop where
  t_month_rows : LamX.TabB base mg (g.cp "month_rows").1 (g.cp "month_rows").2
  t__law_plain : LamX.TabB base mg (g.cp "_law_plain").1 (g.cp "_law_plain").2
  t_law : LamX.TabB base mg (g.cp "law").1 (g.cp "law").2
section
variable {P : Program} {w : World} {g : GC} {mg : Str → Option Value} {base : Heap}
/-! _law_roll -/
def b__law_roll (self : List D → Store → R D) : DS := dSeq (dIfS (dOr (dB (dBin aEq (dBin aIx (dVar 0) (dC (.int 2))) (dC (.int 2)))) (dAnd (dB (dBin aEq (dBin aIx (dVar 0) (dC (.int 2))) (dC (.int 1)))) (dB (dBin aGt (dBin aIx (dVar 0) (dC (.int 0))) (dC (.int 0)))))) (dSeq (dAsg (dBin aMod (dCall bInt (dCons (dBin aIx (dVar 0) (dC (.int 0))) (dNil))) (dVar 1)) (dgName 2)) (dSeq (dSetL (dBin aFdiv (dBin aIx (dVar 0) (dC (.int 0))) (dVar 1)) (dVar 0) (dC (.int 0))) (dRet (dVar 2)))) (dNext)) (dSeq (dSetL (dC (.int 0)) (dVar 0) (dC (.int 2))) (dSeq (dIfS (dB (dBin aGt (dVar 1) (dC (.int 100000000)))) (dRet (dBin aMod (dCall bInt (dCons (dBin (aAdd false) (dBin (aMul false) (dCall self (dCons (dVar 0) (dCons (dBin (aAdd false) (dBin aFdiv (dVar 1) (dC (.int 100000000))) (dC (.int 1))) (dNil)))) (dC (.int 100000000))) (dCall self (dCons (dVar 0) (dCons (dC (.int 100000000)) (dNil))))) (dNil))) (dVar 1))) (dNext)) (dSeq (dSetL (dBin aMod (dCall bInt (dCons (dBin (aAdd false) (dBin (aAdd false) (dBin (aMul false) (dBin aIx (dVar 0) (dC (.int 0))) (dC (.int 48271))) (dBin (aMul false) (dBin aIx (dVar 0) (dC (.int 1))) (dC (.int 69621)))) (dC (.int 11))) (dNil))) (dC (.int 2147483647))) (dVar 0) (dC (.int 0))) (dSeq (dSetL (dBin (aAdd false) (dBin aIx (dVar 0) (dC (.int 1))) (dC (.int 1))) (dVar 0) (dC (.int 1))) (dRet (dBin aMod (dCall bInt (dCons (dBin aFdiv (dBin aIx (dVar 0) (dC (.int 0))) (dC (.int 7))) (dNil))) (dVar 1)))))))
def r__law_roll : Nat → List D → Store → R D
  | 0 => fun _ _ => .bad
  | m + 1 => runB 3 (b__law_roll (r__law_roll m))
def f__law_roll : List D → Store → R D := r__law_roll 4
theorem fr__law_roll (T : Txt g mg) (B : Tbs g mg base) : ∀ m, FnD P w mg base g (0 + m) "_law_roll" 2 (r__law_roll m) := by
  refine fn_rec (N := ["dice", "many", "found"]) T.d__law_roll rfl r__law_roll rfl (fun _ => rfl) fun m Fself => fn_D T.d__law_roll sc__law_roll rfl fun fa cdv A outer s H E O => ?_
  exact ss_cons (s_if (pt_w (pw_or (pt_cmp (oEq O) (pd_ix O (pd_var 0) (pd_int)) (pd_int)) (pw_or1 (pt_w (pw_and (pt_cmp (oEq O) (pd_ix O (pd_var 0) (pd_int)) (pd_int)) (pw_and1 (pt_cmp oGt (pd_ix O (pd_var 0) (pd_int)) (pd_int)))))))) (ss_cons (s_asg (pd_bin oMod (pd_callT cInt T.n_int PyProof.Rows.boot_int (pa_cons (pd_ix O (pd_var 0) (pd_int)) (pa_nil))) (pd_var 1)) (g_name 2 O)) (ss_cons (s_setL (pd_bin oFdiv (pd_ix O (pd_var 0) (pd_int)) (pd_var 1)) (pd_var 0) (pd_int)) (ss_one (s_ret (pd_var 2))))) (ss_nil)) (ss_cons (s_setL (pd_int) (pd_var 0) (pd_int)) (ss_cons (s_if (pt_cmp oGt (pd_var 1) (pd_int)) (ss_one (s_ret (pd_bin oMod (pd_callT cInt T.n_int PyProof.Rows.boot_int (pa_cons (pd_bin (oAdd O) (pd_bin oMul (pd_call O Fself (by omega) (pa_cons (pd_var 0) (pa_cons (pd_bin (oAdd O) (pd_bin oFdiv (pd_var 1) (pd_int)) (pd_int)) (pa_nil))) (len_cons_ (len_cons_ (fun _ _ _ _ h => len_nil_ h)))) (pd_int)) (pd_call O Fself (by omega) (pa_cons (pd_var 0) (pa_cons (pd_int) (pa_nil))) (len_cons_ (len_cons_ (fun _ _ _ _ h => len_nil_ h))))) (pa_nil))) (pd_var 1)))) (ss_nil)) (ss_cons (s_setL (pd_bin oMod (pd_callT cInt T.n_int PyProof.Rows.boot_int (pa_cons (pd_bin (oAdd O) (pd_bin (oAdd O) (pd_bin oMul (pd_ix O (pd_var 0) (pd_int)) (pd_int)) (pd_bin oMul (pd_ix O (pd_var 0) (pd_int)) (pd_int))) (pd_int)) (pa_nil))) (pd_int)) (pd_var 0) (pd_int)) (ss_cons (s_setL (pd_bin (oAdd O) (pd_ix O (pd_var 0) (pd_int)) (pd_int)) (pd_var 0) (pd_int)) (ss_one (s_ret (pd_bin oMod (pd_callT cInt T.n_int PyProof.Rows.boot_int (pa_cons (pd_bin oFdiv (pd_ix O (pd_var 0) (pd_int)) (pd_int)) (pa_nil))) (pd_var 1))))))))
theorem fn__law_roll (T : Txt g mg) (B : Tbs g mg base) : FnD P w mg base g 4 "_law_roll" 2 f__law_roll := fr__law_roll T B 4
/-! is_leap -/
def b_is_leap : DS := dSeq (dIfS (dNot (dB (dChain aLeT aLeT (dC (.int 1)) (dVar 0) (dC c_MOST_YEAR)))) (dRaise "DayError") (dNext)) (dRet (dAndV (dBin aEq (dBin aMod (dVar 0) (dC (.int 4))) (dC (.int 0))) (dOrV (dBin aNe (dBin aMod (dVar 0) (dC (.int 100))) (dC (.int 0))) (dBin aEq (dBin aMod (dVar 0) (dC (.int 400))) (dC (.int 0))))))
def f_is_leap : List D → Store → R D := runB 1 b_is_leap
theorem fn_is_leap (T : Txt g mg) (B : Tbs g mg base) : FnD P w mg base g 1 "is_leap" 1 f_is_leap := by
  refine (fn_D T.d_is_leap sc_is_leap rfl fun fa cdv A outer s H E O => ?_)
  exact ss_cons (s_if (pt_not (pt_chain (oLeT O) (oLeT O) (pd_int) (pd_var 0) (pd_glob T.g_MOST_YEAR))) (ss_one (s_raise O T.e_DayError)) (ss_nil)) (ss_one (s_ret (pd_and (pd_cmp (oEq O) (pd_bin oMod (pd_var 0) (pd_int)) (pd_int)) (pd_one (pd_or (pd_cmp (oNe O) (pd_bin oMod (pd_var 0) (pd_int)) (pd_int)) (pd_one (pd_cmp (oEq O) (pd_bin oMod (pd_var 0) (pd_int)) (pd_int))))))))
/-! days_in_month -/
def b_days_in_month : DS := dSeq (dAsg (dCall f_is_leap (dCons (dVar 0) (dNil))) (dgName 2)) (dSeq (dIfS (dNot (dB (dChain aLeT aLeT (dC (.int 1)) (dVar 1) (dC (.int 12))))) (dRaise "DayError") (dNext)) (dRet (dBin (aAdd false) (dBin aIx (dC c_MONTH_LENGTHS) (dBin aSub (dVar 1) (dC (.int 1)))) (dIf (dAnd (dB (dBin aEq (dVar 1) (dC (.int 2)))) (dTru (dVar 2))) (dC (.int 1)) (dC (.int 0))))))
def f_days_in_month : List D → Store → R D := runB 3 b_days_in_month
theorem fn_days_in_month (T : Txt g mg) (B : Tbs g mg base) : FnD P w mg base g 2 "days_in_month" 2 f_days_in_month := by
  have F_is_leap := (fn_is_leap (P := P) (w := w) (base := base) T B)
  refine (fn_D T.d_days_in_month sc_days_in_month rfl fun fa cdv A outer s H E O => ?_)
  exact ss_cons (s_asg (pd_call O F_is_leap (by decide) (pa_cons (pd_var 0) (pa_nil)) (len_cons_ (fun _ _ _ _ h => len_nil_ h))) (g_name 2 O)) (ss_cons (s_if (pt_not (pt_chain (oLeT O) (oLeT O) (pd_int) (pd_var 1) (pd_int))) (ss_one (s_raise O T.e_DayError)) (ss_nil)) (ss_one (s_ret (pd_bin (oAdd O) (pd_ix O (pd_glob T.g_MONTH_LENGTHS) (pd_bin oSub (pd_var 1) (pd_int))) (pd_if (pt_w (pw_and (pt_cmp (oEq O) (pd_var 1) (pd_int)) (pw_and1 (pt_tru O (pd_var 2))))) (pd_int) (pd_int))))))
/-! _law_date -/
def b__law_date : DS := dSeq (dPar [1, 2] (dCons (dBin (aAdd false) (dC (.int 1890)) (dCall f__law_roll (dCons (dVar 0) (dCons (dC (.int 300)) (dNil))))) (dCons (dBin (aAdd false) (dC (.int 1)) (dCall f__law_roll (dCons (dVar 0) (dCons (dC (.int 12)) (dNil))))) (dNil)))) (dRet (dTup (dCons (dVar 1) (dCons (dVar 2) (dCons (dBin (aAdd false) (dC (.int 1)) (dCall f__law_roll (dCons (dVar 0) (dCons (dCall f_days_in_month (dCons (dVar 1) (dCons (dVar 2) (dNil)))) (dNil))))) (dNil))))))
def f__law_date : List D → Store → R D := runB 3 b__law_date
theorem fn__law_date (T : Txt g mg) (B : Tbs g mg base) : FnD P w mg base g 5 "_law_date" 1 f__law_date := by
  have F__law_roll := (fn__law_roll (P := P) (w := w) (base := base) T B)
  have F_days_in_month := (fn_days_in_month (P := P) (w := w) (base := base) T B)
  refine (fn_D T.d__law_date sc__law_date rfl fun fa cdv A outer s H E O => ?_)
  exact ss_cons (s_par (i := 1) (j := 2) O (pa_cons (pd_bin (oAdd O) (pd_int) (pd_call O F__law_roll (by decide) (pa_cons (pd_var 0) (pa_cons (pd_int) (pa_nil))) (len_cons_ (len_cons_ (fun _ _ _ _ h => len_nil_ h))))) (pa_cons (pd_bin (oAdd O) (pd_int) (pd_call O F__law_roll (by decide) (pa_cons (pd_var 0) (pa_cons (pd_int) (pa_nil))) (len_cons_ (len_cons_ (fun _ _ _ _ h => len_nil_ h))))) (pa_nil)))) (ss_one (s_ret (pd_tup (pa_cons (pd_var 1) (pa_cons (pd_var 2) (pa_cons (pd_bin (oAdd O) (pd_int) (pd_call O F__law_roll (by decide) (pa_cons (pd_var 0) (pa_cons (pd_call O F_days_in_month (by decide) (pa_cons (pd_var 1) (pa_cons (pd_var 2) (pa_nil))) (len_cons_ (len_cons_ (fun _ _ _ _ h => len_nil_ h)))) (pa_nil))) (len_cons_ (len_cons_ (fun _ _ _ _ h => len_nil_ h))))) (pa_nil)))))))
/-! check_weekday -/
def b_check_weekday : DS := dIfS (dNot (dB (dChain aLeT aLeT (dC (.int 0)) (dVar 0) (dC (.int 6))))) (dRaise "WeekError") (dNext)
def f_check_weekday : List D → Store → R D := runB 1 b_check_weekday
theorem fn_check_weekday (T : Txt g mg) (B : Tbs g mg base) : FnD P w mg base g 1 "check_weekday" 1 f_check_weekday := by
  refine (fn_D T.d_check_weekday sc_check_weekday rfl fun fa cdv A outer s H E O => ?_)
  exact ss_one (s_if (pt_not (pt_chain (oLeT O) (oLeT O) (pd_int) (pd_var 0) (pd_int))) (ss_one (s_raise O T.e_WeekError)) (ss_nil))
/-! check_number -/
def b_check_number : DS := dIfS (dNot (dB (dChain aLeT aLeT (dC (.int 1)) (dVar 0) (dC (.int 3652059))))) (dRaise "DayError") (dNext)
def f_check_number : List D → Store → R D := runB 1 b_check_number
theorem fn_check_number (T : Txt g mg) (B : Tbs g mg base) : FnD P w mg base g 1 "check_number" 1 f_check_number := by
  refine (fn_D T.d_check_number sc_check_number rfl fun fa cdv A outer s H E O => ?_)
  exact ss_one (s_if (pt_not (pt_chain (oLeT O) (oLeT O) (pd_int) (pd_var 0) (pd_int))) (ss_one (s_raise O T.e_DayError)) (ss_nil))
/-! days_before_year -/
def b_days_before_year : DS := dSeq (dAsg (dBin aSub (dVar 0) (dC (.int 1))) (dgName 1)) (dRet (dBin (aAdd false) (dBin aSub (dBin (aAdd false) (dBin (aMul false) (dC (.int 365)) (dVar 1)) (dBin aFdiv (dVar 1) (dC (.int 4)))) (dBin aFdiv (dVar 1) (dC (.int 100)))) (dBin aFdiv (dVar 1) (dC (.int 400)))))
def f_days_before_year : List D → Store → R D := runB 2 b_days_before_year
theorem fn_days_before_year (T : Txt g mg) (B : Tbs g mg base) : FnD P w mg base g 1 "days_before_year" 1 f_days_before_year := by
  refine (fn_D T.d_days_before_year sc_days_before_year rfl fun fa cdv A outer s H E O => ?_)
  exact ss_cons (s_asg (pd_bin oSub (pd_var 0) (pd_int)) (g_name 1 O)) (ss_one (s_ret (pd_bin (oAdd O) (pd_bin oSub (pd_bin (oAdd O) (pd_bin oMul (pd_int) (pd_var 1)) (pd_bin oFdiv (pd_var 1) (pd_int))) (pd_bin oFdiv (pd_var 1) (pd_int))) (pd_bin oFdiv (pd_var 1) (pd_int)))))
/-! date_of -/
def t_date_of_1 : DT := dB (dBin aLt (dCall f_days_before_year (dCons (dBin (aAdd false) (dVar 1) (dC (.int 1))) (dNil))) (dVar 0))
def w_date_of_1 : DS := dAug 1 aAddI (dC (.int 1))
def t_date_of_2 : DT := dB (dBin aGt (dVar 2) (dVar 5))
def w_date_of_2 : DS := dSeq (dAug 2 aSub (dVar 5)) (dSeq (dAug 3 aAddI (dC (.int 1))) (dAsg (dBin (aAdd false) (dBin aIx (dC c_MONTH_LENGTHS) (dBin aSub (dVar 3) (dC (.int 1)))) (dIf (dAnd (dB (dBin aEq (dVar 3) (dC (.int 2)))) (dTru (dVar 4))) (dC (.int 1)) (dC (.int 0)))) (dgName 5)))
def b_date_of : DS := dSeq (dDrop (dCall f_check_number (dCons (dVar 0) (dNil)))) (dSeq (dAsg (dCall bMax2 (dCons (dC (.int 1)) (dCons (dBin aFdiv (dBin (aMul false) (dBin aSub (dVar 0) (dC (.int 1))) (dC (.int 400))) (dC (.int 146097))) (dNil)))) (dgName 1)) (dSeq (dWhile t_date_of_1 w_date_of_1) (dSeq (dPar [2, 3, 4] (dCons (dBin aSub (dVar 0) (dCall f_days_before_year (dCons (dVar 1) (dNil)))) (dCons (dC (.int 1)) (dCons (dCall f_is_leap (dCons (dVar 1) (dNil))) (dNil))))) (dSeq (dAsg (dC (.int 31)) (dgName 5)) (dSeq (dWhile t_date_of_2 w_date_of_2) (dRet (dTup (dCons (dVar 1) (dCons (dVar 3) (dCons (dVar 2) (dNil)))))))))))
def f_date_of : List D → Store → R D := runB 6 b_date_of
theorem fn_date_of (T : Txt g mg) (B : Tbs g mg base) : FnD P w mg base g 2 "date_of" 1 f_date_of := by
  have F_check_number := (fn_check_number (P := P) (w := w) (base := base) T B)
  have F_days_before_year := (fn_days_before_year (P := P) (w := w) (base := base) T B)
  have F_is_leap := (fn_is_leap (P := P) (w := w) (base := base) T B)
  refine (fn_D T.d_date_of sc_date_of rfl fun fa cdv A outer s H E O => ?_)
  exact ss_cons (s_expr (pd_call O F_check_number (by decide) (pa_cons (pd_var 0) (pa_nil)) (len_cons_ (fun _ _ _ _ h => len_nil_ h)))) (ss_cons (s_asg (pd_callB (cMax2 O) T.n_max PyProof.Rows.boot_max (pa_cons (pd_int) (pa_cons (pd_bin oFdiv (pd_bin oMul (pd_bin oSub (pd_var 0) (pd_int)) (pd_int)) (pd_int)) (pa_nil)))) (g_name 1 O)) (ss_cons (s_while O (pt_cmp (oLt O) (pd_call O F_days_before_year (by decide) (pa_cons (pd_bin (oAdd O) (pd_var 1) (pd_int)) (pa_nil)) (len_cons_ (fun _ _ _ _ h => len_nil_ h))) (pd_var 0)) (ss_one (s_addI (i := 1) O (pd_int)))) (ss_cons (s_par3 (i := 2) (j := 3) (l := 4) O (pa_cons (pd_bin oSub (pd_var 0) (pd_call O F_days_before_year (by decide) (pa_cons (pd_var 1) (pa_nil)) (len_cons_ (fun _ _ _ _ h => len_nil_ h)))) (pa_cons (pd_int) (pa_cons (pd_call O F_is_leap (by decide) (pa_cons (pd_var 1) (pa_nil)) (len_cons_ (fun _ _ _ _ h => len_nil_ h))) (pa_nil))))) (ss_cons (s_asg (pd_int) (g_name 5 O)) (ss_cons (s_while O (pt_cmp oGt (pd_var 2) (pd_var 5)) (ss_cons (s_subI (i := 2) O (pd_var 5)) (ss_cons (s_addI (i := 3) O (pd_int)) (ss_one (s_asg (pd_bin (oAdd O) (pd_ix O (pd_glob T.g_MONTH_LENGTHS) (pd_bin oSub (pd_var 3) (pd_int))) (pd_if (pt_w (pw_and (pt_cmp (oEq O) (pd_var 3) (pd_int)) (pw_and1 (pt_tru O (pd_var 4))))) (pd_int) (pd_int))) (g_name 5 O)))))) (ss_one (s_ret (pd_tup (pa_cons (pd_var 1) (pa_cons (pd_var 3) (pa_cons (pd_var 2) (pa_nil))))))))))))
/-! check_date -/
def b_check_date : DS := dSeq (dAsg (dVar 0) (dgTup 3 (dgCons (dgName 1) (dgCons (dgName 2) (dgCons (dgName 3) (dgNil)))))) (dIfS (dNot (dB (dChain aLeT aLeT (dC (.int 1)) (dVar 3) (dCall f_days_in_month (dCons (dVar 1) (dCons (dVar 2) (dNil))))))) (dRaise "DayError") (dNext))
def f_check_date : List D → Store → R D := runB 4 b_check_date
theorem fn_check_date (T : Txt g mg) (B : Tbs g mg base) : FnD P w mg base g 3 "check_date" 1 f_check_date := by
  have F_days_in_month := (fn_days_in_month (P := P) (w := w) (base := base) T B)
  refine (fn_D T.d_check_date sc_check_date rfl fun fa cdv A outer s H E O => ?_)
  exact ss_cons (s_asg (pd_var 0) (g_tup O (gs_cons (g_name 1 O) (gs_cons (g_name 2 O) (gs_cons (g_name 3 O) (gs_nil)))))) (ss_one (s_if (pt_not (pt_chain (oLeT O) (oLeT O) (pd_int) (pd_var 3) (pd_call O F_days_in_month (by decide) (pa_cons (pd_var 1) (pa_cons (pd_var 2) (pa_nil))) (len_cons_ (len_cons_ (fun _ _ _ _ h => len_nil_ h)))))) (ss_one (s_raise O T.e_DayError)) (ss_nil)))
/-! day_number -/
def b_day_number : DS := dSeq (dDrop (dCall f_check_date (dCons (dVar 0) (dNil)))) (dSeq (dAsg (dVar 0) (dgTup 3 (dgCons (dgName 1) (dgCons (dgName 2) (dgCons (dgName 3) (dgNil)))))) (dSeq (dAsg (dBin (aAdd false) (dCall bSum (dCons (dSl false (dC c_MONTH_LENGTHS) (dNoP) (dP (dBin aSub (dVar 2) (dC (.int 1))))) (dNil))) (dIf (dAnd (dB (dBin aGt (dVar 2) (dC (.int 2)))) (dTru (dCall f_is_leap (dCons (dVar 1) (dNil))))) (dC (.int 1)) (dC (.int 0)))) (dgName 4)) (dRet (dBin (aAdd false) (dBin (aAdd false) (dCall f_days_before_year (dCons (dVar 1) (dNil))) (dVar 4)) (dVar 3)))))
def f_day_number : List D → Store → R D := runB 5 b_day_number
theorem fn_day_number (T : Txt g mg) (B : Tbs g mg base) : FnD P w mg base g 4 "day_number" 1 f_day_number := by
  have F_check_date := (fn_check_date (P := P) (w := w) (base := base) T B)
  have F_days_before_year := (fn_days_before_year (P := P) (w := w) (base := base) T B)
  have F_is_leap := (fn_is_leap (P := P) (w := w) (base := base) T B)
  refine (fn_D T.d_day_number sc_day_number rfl fun fa cdv A outer s H E O => ?_)
  exact ss_cons (s_expr (pd_call O F_check_date (by decide) (pa_cons (pd_var 0) (pa_nil)) (len_cons_ (fun _ _ _ _ h => len_nil_ h)))) (ss_cons (s_asg (pd_var 0) (g_tup O (gs_cons (g_name 1 O) (gs_cons (g_name 2 O) (gs_cons (g_name 3 O) (gs_nil)))))) (ss_cons (s_asg (pd_bin (oAdd O) (pd_callB (cSum O) T.n_sum PyProof.Rows.boot_sum (pa_cons (pd_slice false O (pd_glob T.g_MONTH_LENGTHS) (po_none) (po_some (pd_bin oSub (pd_var 2) (pd_int)))) (pa_nil))) (pd_if (pt_w (pw_and (pt_cmp oGt (pd_var 2) (pd_int)) (pw_and1 (pt_tru O (pd_call O F_is_leap (by decide) (pa_cons (pd_var 1) (pa_nil)) (len_cons_ (fun _ _ _ _ h => len_nil_ h))))))) (pd_int) (pd_int))) (g_name 4 O)) (ss_one (s_ret (pd_bin (oAdd O) (pd_bin (oAdd O) (pd_call O F_days_before_year (by decide) (pa_cons (pd_var 1) (pa_nil)) (len_cons_ (fun _ _ _ _ h => len_nil_ h))) (pd_var 4)) (pd_var 3))))))
/-! weekday_of -/
def b_weekday_of : DS := dSeq (dDrop (dCall f_check_number (dCons (dVar 0) (dNil)))) (dRet (dBin aMod (dBin aSub (dVar 0) (dC (.int 1))) (dC (.int 7))))
def f_weekday_of : List D → Store → R D := runB 1 b_weekday_of
theorem fn_weekday_of (T : Txt g mg) (B : Tbs g mg base) : FnD P w mg base g 2 "weekday_of" 1 f_weekday_of := by
  have F_check_number := (fn_check_number (P := P) (w := w) (base := base) T B)
  refine (fn_D T.d_weekday_of sc_weekday_of rfl fun fa cdv A outer s H E O => ?_)
  exact ss_cons (s_expr (pd_call O F_check_number (by decide) (pa_cons (pd_var 0) (pa_nil)) (len_cons_ (fun _ _ _ _ h => len_nil_ h)))) (ss_one (s_ret (pd_bin oMod (pd_bin oSub (pd_var 0) (pd_int)) (pd_int))))
/-! first_week -/
def b_first_week : DS := dSeq (dAsg (dCall f_day_number (dCons (dTup (dCons (dVar 0) (dCons (dC (.int 1)) (dCons (dC (.int 4)) (dNil))))) (dNil))) (dgName 1)) (dRet (dBin aSub (dVar 1) (dCall f_weekday_of (dCons (dVar 1) (dNil)))))
def f_first_week : List D → Store → R D := runB 2 b_first_week
theorem fn_first_week (T : Txt g mg) (B : Tbs g mg base) : FnD P w mg base g 5 "first_week" 1 f_first_week := by
  have F_day_number := (fn_day_number (P := P) (w := w) (base := base) T B)
  have F_weekday_of := (fn_weekday_of (P := P) (w := w) (base := base) T B)
  refine (fn_D T.d_first_week sc_first_week rfl fun fa cdv A outer s H E O => ?_)
  exact ss_cons (s_asg (pd_call O F_day_number (by decide) (pa_cons (pd_tup (pa_cons (pd_var 0) (pa_cons (pd_int) (pa_cons (pd_int) (pa_nil))))) (pa_nil)) (len_cons_ (fun _ _ _ _ h => len_nil_ h))) (g_name 1 O)) (ss_one (s_ret (pd_bin oSub (pd_var 1) (pd_call O F_weekday_of (by decide) (pa_cons (pd_var 1) (pa_nil)) (len_cons_ (fun _ _ _ _ h => len_nil_ h))))))
/-! week_of -/
def b_week_of : DS := dSeq (dAsg (dCall f_day_number (dCons (dVar 0) (dNil))) (dgName 1)) (dSeq (dAsg (dCall f_weekday_of (dCons (dVar 1) (dNil))) (dgName 2)) (dSeq (dAsg (dBin (aAdd false) (dBin aSub (dVar 1) (dVar 2)) (dC (.int 3))) (dgName 3)) (dSeq (dIfS (dOr (dB (dBin aLt (dVar 3) (dC (.int 1)))) (dB (dBin aGt (dVar 3) (dCall f_day_number (dCons (dTup (dCons (dC (.int 9999)) (dCons (dC (.int 12)) (dCons (dC (.int 31)) (dNil))))) (dNil)))))) (dRaise "WeekError") (dNext)) (dSeq (dAsg (dBin aIx (dCall f_date_of (dCons (dVar 3) (dNil))) (dC (.int 0))) (dgName 4)) (dRet (dTup (dCons (dVar 4) (dCons (dBin (aAdd false) (dBin aFdiv (dBin aSub (dVar 3) (dCall f_day_number (dCons (dTup (dCons (dVar 4) (dCons (dC (.int 1)) (dCons (dC (.int 1)) (dNil))))) (dNil)))) (dC (.int 7))) (dC (.int 1))) (dCons (dVar 2) (dNil))))))))))
def f_week_of : List D → Store → R D := runB 5 b_week_of
theorem fn_week_of (T : Txt g mg) (B : Tbs g mg base) : FnD P w mg base g 5 "week_of" 1 f_week_of := by
  have F_date_of := (fn_date_of (P := P) (w := w) (base := base) T B)
  have F_day_number := (fn_day_number (P := P) (w := w) (base := base) T B)
  have F_weekday_of := (fn_weekday_of (P := P) (w := w) (base := base) T B)
  refine (fn_D T.d_week_of sc_week_of rfl fun fa cdv A outer s H E O => ?_)
  exact ss_cons (s_asg (pd_call O F_day_number (by decide) (pa_cons (pd_var 0) (pa_nil)) (len_cons_ (fun _ _ _ _ h => len_nil_ h))) (g_name 1 O)) (ss_cons (s_asg (pd_call O F_weekday_of (by decide) (pa_cons (pd_var 1) (pa_nil)) (len_cons_ (fun _ _ _ _ h => len_nil_ h))) (g_name 2 O)) (ss_cons (s_asg (pd_bin (oAdd O) (pd_bin oSub (pd_var 1) (pd_var 2)) (pd_int)) (g_name 3 O)) (ss_cons (s_if (pt_w (pw_or (pt_cmp (oLt O) (pd_var 3) (pd_int)) (pw_or1 (pt_cmp oGt (pd_var 3) (pd_call O F_day_number (by decide) (pa_cons (pd_tup (pa_cons (pd_int) (pa_cons (pd_int) (pa_cons (pd_int) (pa_nil))))) (pa_nil)) (len_cons_ (fun _ _ _ _ h => len_nil_ h))))))) (ss_one (s_raise O T.e_WeekError)) (ss_nil)) (ss_cons (s_asg (pd_ix O (pd_call O F_date_of (by decide) (pa_cons (pd_var 3) (pa_nil)) (len_cons_ (fun _ _ _ _ h => len_nil_ h))) (pd_int)) (g_name 4 O)) (ss_one (s_ret (pd_tup (pa_cons (pd_var 4) (pa_cons (pd_bin (oAdd O) (pd_bin oFdiv (pd_bin oSub (pd_var 3) (pd_call O F_day_number (by decide) (pa_cons (pd_tup (pa_cons (pd_var 4) (pa_cons (pd_int) (pa_cons (pd_int) (pa_nil))))) (pa_nil)) (len_cons_ (fun _ _ _ _ h => len_nil_ h)))) (pd_int)) (pd_int)) (pa_cons (pd_var 2) (pa_nil)))))))))))
/-! weeks_in_year -/
def b_weeks_in_year : DS := dRet (dBin aIx (dCall f_week_of (dCons (dTup (dCons (dVar 0) (dCons (dC (.int 12)) (dCons (dC (.int 28)) (dNil))))) (dNil))) (dC (.int 1)))
def f_weeks_in_year : List D → Store → R D := runB 1 b_weeks_in_year
theorem fn_weeks_in_year (T : Txt g mg) (B : Tbs g mg base) : FnD P w mg base g 6 "weeks_in_year" 1 f_weeks_in_year := by
  have F_week_of := (fn_week_of (P := P) (w := w) (base := base) T B)
  refine (fn_D T.d_weeks_in_year sc_weeks_in_year rfl fun fa cdv A outer s H E O => ?_)
  exact ss_one (s_ret (pd_ix O (pd_call O F_week_of (by decide) (pa_cons (pd_tup (pa_cons (pd_var 0) (pa_cons (pd_int) (pa_cons (pd_int) (pa_nil))))) (pa_nil)) (len_cons_ (fun _ _ _ _ h => len_nil_ h))) (pd_int)))
/-! by_week -/
def b_by_week : DS := dSeq (dDrop (dCall f_check_weekday (dCons (dVar 2) (dNil)))) (dSeq (dIfS (dNot (dB (dChain aLeT aLeT (dC (.int 1)) (dVar 1) (dCall f_weeks_in_year (dCons (dVar 0) (dNil)))))) (dRaise "WeekError") (dNext)) (dRet (dCall f_date_of (dCons (dBin (aAdd false) (dBin (aAdd false) (dCall f_first_week (dCons (dVar 0) (dNil))) (dBin (aMul false) (dC (.int 7)) (dBin aSub (dVar 1) (dC (.int 1))))) (dVar 2)) (dNil)))))
def f_by_week : List D → Store → R D := runB 3 b_by_week
theorem fn_by_week (T : Txt g mg) (B : Tbs g mg base) : FnD P w mg base g 7 "by_week" 3 f_by_week := by
  have F_check_weekday := (fn_check_weekday (P := P) (w := w) (base := base) T B)
  have F_date_of := (fn_date_of (P := P) (w := w) (base := base) T B)
  have F_first_week := (fn_first_week (P := P) (w := w) (base := base) T B)
  have F_weeks_in_year := (fn_weeks_in_year (P := P) (w := w) (base := base) T B)
  refine (fn_D T.d_by_week sc_by_week rfl fun fa cdv A outer s H E O => ?_)
  exact ss_cons (s_expr (pd_call O F_check_weekday (by decide) (pa_cons (pd_var 2) (pa_nil)) (len_cons_ (fun _ _ _ _ h => len_nil_ h)))) (ss_cons (s_if (pt_not (pt_chain (oLeT O) (oLeT O) (pd_int) (pd_var 1) (pd_call O F_weeks_in_year (by decide) (pa_cons (pd_var 0) (pa_nil)) (len_cons_ (fun _ _ _ _ h => len_nil_ h))))) (ss_one (s_raise O T.e_WeekError)) (ss_nil)) (ss_one (s_ret (pd_call O F_date_of (by decide) (pa_cons (pd_bin (oAdd O) (pd_bin (oAdd O) (pd_call O F_first_week (by decide) (pa_cons (pd_var 0) (pa_nil)) (len_cons_ (fun _ _ _ _ h => len_nil_ h))) (pd_bin oMul (pd_int) (pd_bin oSub (pd_var 1) (pd_int)))) (pd_var 2)) (pa_nil)) (len_cons_ (fun _ _ _ _ h => len_nil_ h))))))
/-! count_weekdays -/
def l_count_weekdays_1 : DS := dDrop (dCall f_check_weekday (dCons (dVar 3) (dNil)))
def l_count_weekdays_2 : DS := dSeq (dAsg (dBin (aAdd false) (dVar 4) (dBin aMod (dBin aSub (dVar 3) (dCall f_weekday_of (dCons (dVar 4) (dNil)))) (dC (.int 7)))) (dgName 7)) (dAug 6 aAddI (dIf (dB (dBin aLeT (dVar 7) (dVar 5))) (dCall bMax2 (dCons (dC (.int 0)) (dCons (dBin (aAdd false) (dBin aFdiv (dBin aSub (dVar 5) (dVar 7)) (dC (.int 7))) (dC (.int 1))) (dNil)))) (dC (.int 0))))
def b_count_weekdays : DS := dSeq (dFor (dIt (dVar 2)) (dgName 3) l_count_weekdays_1) (dSeq (dPar [4, 5] (dCons (dCall f_day_number (dCons (dVar 0) (dNil))) (dCons (dCall f_day_number (dCons (dVar 1) (dNil))) (dNil)))) (dSeq (dAsg (dC (.int 0)) (dgName 6)) (dSeq (dFor (dIt (dCall (bSortedK false) (dCons (dDc (dIt (dVar 2)) (dgName 3) (dYes) (dVar 3) (dC (.bl true)) [3]) (dNil)))) (dgName 3) l_count_weekdays_2) (dRet (dVar 6)))))
def f_count_weekdays : List D → Store → R D := runB 8 b_count_weekdays
theorem fn_count_weekdays (T : Txt g mg) (B : Tbs g mg base) : FnD P w mg base g 5 "count_weekdays" 3 f_count_weekdays := by
  have F_check_weekday := (fn_check_weekday (P := P) (w := w) (base := base) T B)
  have F_day_number := (fn_day_number (P := P) (w := w) (base := base) T B)
  have F_weekday_of := (fn_weekday_of (P := P) (w := w) (base := base) T B)
  refine (fn_D T.d_count_weekdays sc_count_weekdays rfl fun fa cdv A outer s H E O => ?_)
  exact ss_cons (s_for O (i_seq O (pd_var 2)) (g_name 3 O) (ss_one (s_expr (pd_call O F_check_weekday (by decide) (pa_cons (pd_var 3) (pa_nil)) (len_cons_ (fun _ _ _ _ h => len_nil_ h)))))) (ss_cons (s_par (i := 4) (j := 5) O (pa_cons (pd_call O F_day_number (by decide) (pa_cons (pd_var 0) (pa_nil)) (len_cons_ (fun _ _ _ _ h => len_nil_ h))) (pa_cons (pd_call O F_day_number (by decide) (pa_cons (pd_var 1) (pa_nil)) (len_cons_ (fun _ _ _ _ h => len_nil_ h))) (pa_nil)))) (ss_cons (s_asg (pd_int) (g_name 6 O)) (ss_cons (s_for O (i_seq O (pd_callB (cSortedK (b := false) O) T.n_sorted PyProof.Rows.boot_sorted (pa_cons (pd_dc (own := [(("weekday" : Str), 3)]) O (i_seq O (pd_var 2)) (blkOk_by (N := ["one", "other", "weekdays", "weekday", "first", "last", "found", "start"]) (sc := defScope s_count_weekdays) (by decide +kernel)) (fun _ _ _ _ _ => g_name 3 (O.blk _ _ _ _ _)) (fun _ _ _ _ _ => ts_nil) (fun _ _ _ _ _ => pd_var 3) (fun _ _ _ _ _ => pd_bl)) (pa_nil)))) (g_name 3 O) (ss_cons (s_asg (pd_bin (oAdd O) (pd_var 4) (pd_bin oMod (pd_bin oSub (pd_var 3) (pd_call O F_weekday_of (by decide) (pa_cons (pd_var 4) (pa_nil)) (len_cons_ (fun _ _ _ _ h => len_nil_ h)))) (pd_int))) (g_name 7 O)) (ss_one (s_addI (i := 6) O (pd_if (pt_cmp (oLeT O) (pd_var 7) (pd_var 5)) (pd_callB (cMax2 O) T.n_max PyProof.Rows.boot_max (pa_cons (pd_int) (pa_cons (pd_bin (oAdd O) (pd_bin oFdiv (pd_bin oSub (pd_var 5) (pd_var 7)) (pd_int)) (pd_int)) (pa_nil)))) (pd_int)))))) (ss_one (s_ret (pd_var 6))))))
/-! month_rows -/
def y_month_rows_1 : DE := dCall bTuple (dCons (dSl false (dVar 5) (dP (dVar 6)) (dP (dBin (aAdd false) (dVar 6) (dC (.int 7))))) (dNil))
def b_month_rows : DS := dSeq (dDrop (dCall f_check_weekday (dCons (dVar 2) (dNil)))) (dSeq (dAsg (dCall f_days_in_month (dCons (dVar 0) (dCons (dVar 1) (dNil)))) (dgName 3)) (dSeq (dAsg (dBin aMod (dBin aSub (dCall f_weekday_of (dCons (dCall f_day_number (dCons (dTup (dCons (dVar 0) (dCons (dVar 1) (dCons (dC (.int 1)) (dNil))))) (dNil))) (dNil))) (dVar 2)) (dC (.int 7))) (dgName 4)) (dSeq (dAsg (dBin (aAdd true) (dBin (aMul false) (dLst false (dCons (dC (.int 0)) (dNil))) (dVar 4)) (dListR2 false (dC (.int 1)) (dBin (aAdd false) (dVar 3) (dC (.int 1))))) (dgName 5)) (dSeq (dAug 5 aExt (dBin (aMul false) (dLst false (dCons (dC (.int 0)) (dNil))) (dBin aMod (dBin aSub (dC (.int 0)) (dCall bLen (dCons (dVar 5) (dNil)))) (dC (.int 7))))) (dRet (dTupG (dGx (dRng3 (dC (.int 0)) (dCall bLen (dCons (dVar 5) (dNil))) (dC (.int 7))) (dgName 6) (dYes) y_month_rows_1 [6])))))))
def f_month_rows : List D → Store → R D := trim (runB 7 b_month_rows)
theorem fn_month_rows (T : Txt g mg) (B : Tbs g mg base) : FnD P w mg base g 10 "month_rows" 3 f_month_rows := by
  have F_check_weekday := (fn_check_weekday (P := P) (w := w) (base := base) T B)
  have F_day_number := (fn_day_number (P := P) (w := w) (base := base) T B)
  have F_days_in_month := (fn_days_in_month (P := P) (w := w) (base := base) T B)
  have F_weekday_of := (fn_weekday_of (P := P) (w := w) (base := base) T B)
  refine FnD.scope (fn_G T.d_month_rows B.t_month_rows T.mT_month_rows T.hu_month_rows sc_month_rows rfl fun fa cdv A outer s H E O M => ?_)
  exact ss_cons (s_expr (pd_call O F_check_weekday (by decide) (pa_cons (pd_var 2) (pa_nil)) (len_cons_ (fun _ _ _ _ h => len_nil_ h)))) (ss_cons (s_asg (pd_call O F_days_in_month (by decide) (pa_cons (pd_var 0) (pa_cons (pd_var 1) (pa_nil))) (len_cons_ (len_cons_ (fun _ _ _ _ h => len_nil_ h)))) (g_name 3 O)) (ss_cons (s_asg (pd_bin oMod (pd_bin oSub (pd_call O F_weekday_of (by decide) (pa_cons (pd_call O F_day_number (by decide) (pa_cons (pd_tup (pa_cons (pd_var 0) (pa_cons (pd_var 1) (pa_cons (pd_int) (pa_nil))))) (pa_nil)) (len_cons_ (fun _ _ _ _ h => len_nil_ h))) (pa_nil)) (len_cons_ (fun _ _ _ _ h => len_nil_ h))) (pd_var 2)) (pd_int)) (g_name 4 O)) (ss_cons (s_asg (pd_bin (oAdd O) (pd_bin oMul (pd_lst false (pa_cons (pd_int) (pa_nil))) (pd_var 4)) (pd_listR2 (lf := false) O T.n_range T.n_list (pd_int) (pd_bin (oAdd O) (pd_var 3) (pd_int)))) (g_name 5 O)) (ss_cons (s_ext (i := 5) O (pd_bin oMul (pd_lst false (pa_cons (pd_int) (pa_nil))) (pd_bin oMod (pd_bin oSub (pd_int) (pd_callB (cLen O) T.n_len PySem.boot_len (pa_cons (pd_var 5) (pa_nil)))) (pd_int)))) (ss_one (s_ret (pd_tupG O (pg_gx (own := [(("place" : Str), 6)]) (j := 4) O M (i_range3 T.n_range (pd_int) (pd_callB (cLen O) T.n_len PySem.boot_len (pa_cons (pd_var 5) (pa_nil))) (pd_int)) (gxS_by (N := ["year", "month", "first", "long", "ahead", "cells", "place"]) (sc := defScope s_month_rows) (by decide +kernel)) (fun A s H L cd fp pn O => g_name 6 O) (fun A s H L cd fp pn O => ts_nil) (fun A s H L cd fp pn O => pd_callT (cTuple O) T.n_tuple PyProof.Rows.boot_tuple (pa_cons (pd_slice false O (pd_var 5) (po_some (pd_var 6)) (po_some (pd_bin (oAdd O) (pd_var 6) (pd_int)))) (pa_nil)))) (by decide) T.n_tuple)))))))
/-! nth_weekday -/
def b_nth_weekday : DS := dSeq (dDrop (dCall f_check_weekday (dCons (dVar 3) (dNil)))) (dSeq (dAsg (dCall f_days_in_month (dCons (dVar 0) (dCons (dVar 1) (dNil)))) (dgName 4)) (dSeq (dAsg (dBin (aAdd false) (dC (.int 1)) (dBin aMod (dBin aSub (dVar 3) (dCall f_weekday_of (dCons (dCall f_day_number (dCons (dTup (dCons (dVar 0) (dCons (dVar 1) (dCons (dC (.int 1)) (dNil))))) (dNil))) (dNil)))) (dC (.int 7)))) (dgName 5)) (dSeq (dAsg (dListR3 false (dVar 5) (dBin (aAdd false) (dVar 4) (dC (.int 1))) (dC (.int 7))) (dgName 6)) (dSeq (dIfS (dOr (dB (dBin aEq (dVar 2) (dC (.int 0)))) (dB (dBin aGt (dCall bAbs (dCons (dVar 2) (dNil))) (dCall bLen (dCons (dVar 6) (dNil)))))) (dRaise "WeekError") (dNext)) (dRet (dTup (dCons (dVar 0) (dCons (dVar 1) (dCons (dIf (dB (dBin aGt (dVar 2) (dC (.int 0)))) (dBin aIx (dVar 6) (dBin aSub (dVar 2) (dC (.int 1)))) (dBin aIx (dVar 6) (dVar 2))) (dNil))))))))))
def f_nth_weekday : List D → Store → R D := runB 7 b_nth_weekday
theorem fn_nth_weekday (T : Txt g mg) (B : Tbs g mg base) : FnD P w mg base g 5 "nth_weekday" 4 f_nth_weekday := by
  have F_check_weekday := (fn_check_weekday (P := P) (w := w) (base := base) T B)
  have F_day_number := (fn_day_number (P := P) (w := w) (base := base) T B)
  have F_days_in_month := (fn_days_in_month (P := P) (w := w) (base := base) T B)
  have F_weekday_of := (fn_weekday_of (P := P) (w := w) (base := base) T B)
  refine (fn_D T.d_nth_weekday sc_nth_weekday rfl fun fa cdv A outer s H E O => ?_)
  exact ss_cons (s_expr (pd_call O F_check_weekday (by decide) (pa_cons (pd_var 3) (pa_nil)) (len_cons_ (fun _ _ _ _ h => len_nil_ h)))) (ss_cons (s_asg (pd_call O F_days_in_month (by decide) (pa_cons (pd_var 0) (pa_cons (pd_var 1) (pa_nil))) (len_cons_ (len_cons_ (fun _ _ _ _ h => len_nil_ h)))) (g_name 4 O)) (ss_cons (s_asg (pd_bin (oAdd O) (pd_int) (pd_bin oMod (pd_bin oSub (pd_var 3) (pd_call O F_weekday_of (by decide) (pa_cons (pd_call O F_day_number (by decide) (pa_cons (pd_tup (pa_cons (pd_var 0) (pa_cons (pd_var 1) (pa_cons (pd_int) (pa_nil))))) (pa_nil)) (len_cons_ (fun _ _ _ _ h => len_nil_ h))) (pa_nil)) (len_cons_ (fun _ _ _ _ h => len_nil_ h)))) (pd_int))) (g_name 5 O)) (ss_cons (s_asg (pd_listR3 (lf := false) O T.n_range T.n_list (pd_var 5) (pd_bin (oAdd O) (pd_var 4) (pd_int)) (pd_int)) (g_name 6 O)) (ss_cons (s_if (pt_w (pw_or (pt_cmp (oEq O) (pd_var 2) (pd_int)) (pw_or1 (pt_cmp oGt (pd_callB cAbs T.n_abs PyProof.Rows.boot_abs (pa_cons (pd_var 2) (pa_nil))) (pd_callB (cLen O) T.n_len PySem.boot_len (pa_cons (pd_var 6) (pa_nil))))))) (ss_one (s_raise O T.e_WeekError)) (ss_nil)) (ss_one (s_ret (pd_tup (pa_cons (pd_var 0) (pa_cons (pd_var 1) (pa_cons (pd_if (pt_cmp oGt (pd_var 2) (pd_int)) (pd_ix O (pd_var 6) (pd_bin oSub (pd_var 2) (pd_int))) (pd_ix O (pd_var 6) (pd_var 2))) (pa_nil)))))))))))
/-! on_or_ahead -/
def b_on_or_ahead : DS := dSeq (dDrop (dCall f_check_weekday (dCons (dVar 1) (dNil)))) (dSeq (dAsg (dCall f_day_number (dCons (dVar 0) (dNil))) (dgName 2)) (dRet (dCall f_date_of (dCons (dBin aSub (dVar 2) (dBin aMod (dBin aSub (dCall f_weekday_of (dCons (dVar 2) (dNil))) (dVar 1)) (dC (.int 7)))) (dNil)))))
def f_on_or_ahead : List D → Store → R D := runB 3 b_on_or_ahead
theorem fn_on_or_ahead (T : Txt g mg) (B : Tbs g mg base) : FnD P w mg base g 5 "on_or_ahead" 2 f_on_or_ahead := by
  have F_check_weekday := (fn_check_weekday (P := P) (w := w) (base := base) T B)
  have F_date_of := (fn_date_of (P := P) (w := w) (base := base) T B)
  have F_day_number := (fn_day_number (P := P) (w := w) (base := base) T B)
  have F_weekday_of := (fn_weekday_of (P := P) (w := w) (base := base) T B)
  refine (fn_D T.d_on_or_ahead sc_on_or_ahead rfl fun fa cdv A outer s H E O => ?_)
  exact ss_cons (s_expr (pd_call O F_check_weekday (by decide) (pa_cons (pd_var 1) (pa_nil)) (len_cons_ (fun _ _ _ _ h => len_nil_ h)))) (ss_cons (s_asg (pd_call O F_day_number (by decide) (pa_cons (pd_var 0) (pa_nil)) (len_cons_ (fun _ _ _ _ h => len_nil_ h))) (g_name 2 O)) (ss_one (s_ret (pd_call O F_date_of (by decide) (pa_cons (pd_bin oSub (pd_var 2) (pd_bin oMod (pd_bin oSub (pd_call O F_weekday_of (by decide) (pa_cons (pd_var 2) (pa_nil)) (len_cons_ (fun _ _ _ _ h => len_nil_ h))) (pd_var 1)) (pd_int))) (pa_nil)) (len_cons_ (fun _ _ _ _ h => len_nil_ h))))))
/-! on_or_behind -/
def b_on_or_behind : DS := dSeq (dDrop (dCall f_check_weekday (dCons (dVar 1) (dNil)))) (dSeq (dAsg (dCall f_day_number (dCons (dVar 0) (dNil))) (dgName 2)) (dRet (dCall f_date_of (dCons (dBin (aAdd false) (dVar 2) (dBin aMod (dBin aSub (dVar 1) (dCall f_weekday_of (dCons (dVar 2) (dNil)))) (dC (.int 7)))) (dNil)))))
def f_on_or_behind : List D → Store → R D := runB 3 b_on_or_behind
theorem fn_on_or_behind (T : Txt g mg) (B : Tbs g mg base) : FnD P w mg base g 5 "on_or_behind" 2 f_on_or_behind := by
  have F_check_weekday := (fn_check_weekday (P := P) (w := w) (base := base) T B)
  have F_date_of := (fn_date_of (P := P) (w := w) (base := base) T B)
  have F_day_number := (fn_day_number (P := P) (w := w) (base := base) T B)
  have F_weekday_of := (fn_weekday_of (P := P) (w := w) (base := base) T B)
  refine (fn_D T.d_on_or_behind sc_on_or_behind rfl fun fa cdv A outer s H E O => ?_)
  exact ss_cons (s_expr (pd_call O F_check_weekday (by decide) (pa_cons (pd_var 1) (pa_nil)) (len_cons_ (fun _ _ _ _ h => len_nil_ h)))) (ss_cons (s_asg (pd_call O F_day_number (by decide) (pa_cons (pd_var 0) (pa_nil)) (len_cons_ (fun _ _ _ _ h => len_nil_ h))) (g_name 2 O)) (ss_one (s_ret (pd_call O F_date_of (by decide) (pa_cons (pd_bin (oAdd O) (pd_var 2) (pd_bin oMod (pd_bin oSub (pd_var 1) (pd_call O F_weekday_of (by decide) (pa_cons (pd_var 2) (pa_nil)) (len_cons_ (fun _ _ _ _ h => len_nil_ h)))) (pd_int))) (pa_nil)) (len_cons_ (fun _ _ _ _ h => len_nil_ h))))))
/-- what the lambdas of the text do -/
def tab (n : Nat) (st : Store) : R D := match n with
  | 0 => (dCall f_check_weekday (dCons (dC (.int 7)) (dNil))) [] st
  | 1 => (dCall f_check_weekday (dCons (dNeg (dC (.int 1))) (dNil))) [] st
  | 2 => (dCall f_by_week (dCons (dC (.int 2026)) (dCons (dC (.int 54)) (dCons (dC (.int 0)) (dNil))))) [] st
  | 3 => (dCall f_by_week (dCons (dC (.int 2027)) (dCons (dC (.int 53)) (dCons (dC (.int 0)) (dNil))))) [] st
  | 4 => (dCall f_by_week (dCons (dC (.int 2026)) (dCons (dC (.int 0)) (dCons (dC (.int 0)) (dNil))))) [] st
  | 5 => (dCall f_by_week (dCons (dC (.int 2026)) (dCons (dC (.int 1)) (dCons (dC (.int 7)) (dNil))))) [] st
  | 6 => (dCall f_nth_weekday (dCons (dC (.int 2026)) (dCons (dC (.int 11)) (dCons (dC (.int 0)) (dCons (dC (.int 1)) (dNil)))))) [] st
  | 7 => (dCall f_nth_weekday (dCons (dC (.int 2026)) (dCons (dC (.int 11)) (dCons (dC (.int 5)) (dCons (dC (.int 1)) (dNil)))))) [] st
  | 8 => (dCall f_nth_weekday (dCons (dC (.int 2026)) (dCons (dC (.int 11)) (dCons (dC (.int 1)) (dCons (dC (.int 7)) (dNil)))))) [] st
  | 9 => (dCall f_on_or_behind (dCons (dTup (dCons (dC (.int 2026)) (dCons (dC (.int 1)) (dCons (dC (.int 1)) (dNil))))) (dCons (dC (.int 7)) (dNil)))) [] st
  | 10 => (dCall f_on_or_ahead (dCons (dTup (dCons (dC (.int 2026)) (dCons (dC (.int 1)) (dCons (dC (.int 1)) (dNil))))) (dCons (dNeg (dC (.int 1))) (dNil)))) [] st
  | 11 => (dCall f_month_rows (dCons (dC (.int 2026)) (dCons (dC (.int 1)) (dCons (dC (.int 7)) (dNil))))) [] st
  | 12 => (dCall f_count_weekdays (dCons (dTup (dCons (dC (.int 2026)) (dCons (dC (.int 1)) (dCons (dC (.int 1)) (dNil))))) (dCons (dTup (dCons (dC (.int 2026)) (dCons (dC (.int 1)) (dCons (dC (.int 2)) (dNil))))) (dCons (dTup (dCons (dC (.int 7)) (dNil))) (dNil))))) [] st
  | _ => .bad
theorem lok_0 (T : Txt g mg) (B : Tbs g mg base) : LamOk lam_0 ∧ ∀ (A : Around) (outer : List PySem.Env) (s : Shared) (H : Hp) (E : XK) (f c : Addr), Ok (lamCx0 P w g.K mg base lam_0 A outer s H E f c) g (WB E) 10 → PD (lamCx0 P w g.K mg base lam_0 A outer s H E f c) g (WB E) lam_0.body (fun _ st => tab 0 st) := by
  have F_check_weekday := (fn_check_weekday (P := P) (w := w) (base := base) T B)
  refine ⟨lamOk_by (by decide +kernel) (by intros; rfl), fun A outer s H E f c O => ?_⟩
  exact (pd_call O F_check_weekday (by decide) (pa_cons (pd_int) (pa_nil)) (len_cons_ (fun _ _ _ _ h => len_nil_ h)) : PD _ g (WB E) lam_0.body (dCall f_check_weekday (dCons (dC (.int 7)) (dNil))))
theorem lok_1 (T : Txt g mg) (B : Tbs g mg base) : LamOk lam_1 ∧ ∀ (A : Around) (outer : List PySem.Env) (s : Shared) (H : Hp) (E : XK) (f c : Addr), Ok (lamCx0 P w g.K mg base lam_1 A outer s H E f c) g (WB E) 10 → PD (lamCx0 P w g.K mg base lam_1 A outer s H E f c) g (WB E) lam_1.body (fun _ st => tab 1 st) := by
  have F_check_weekday := (fn_check_weekday (P := P) (w := w) (base := base) T B)
  refine ⟨lamOk_by (by decide +kernel) (by intros; rfl), fun A outer s H E f c O => ?_⟩
  exact (pd_call O F_check_weekday (by decide) (pa_cons (pd_neg (pd_int)) (pa_nil)) (len_cons_ (fun _ _ _ _ h => len_nil_ h)) : PD _ g (WB E) lam_1.body (dCall f_check_weekday (dCons (dNeg (dC (.int 1))) (dNil))))
theorem lok_2 (T : Txt g mg) (B : Tbs g mg base) : LamOk lam_2 ∧ ∀ (A : Around) (outer : List PySem.Env) (s : Shared) (H : Hp) (E : XK) (f c : Addr), Ok (lamCx0 P w g.K mg base lam_2 A outer s H E f c) g (WB E) 10 → PD (lamCx0 P w g.K mg base lam_2 A outer s H E f c) g (WB E) lam_2.body (fun _ st => tab 2 st) := by
  have F_by_week := (fn_by_week (P := P) (w := w) (base := base) T B)
  refine ⟨lamOk_by (by decide +kernel) (by intros; rfl), fun A outer s H E f c O => ?_⟩
  exact (pd_call O F_by_week (by decide) (pa_cons (pd_int) (pa_cons (pd_int) (pa_cons (pd_int) (pa_nil)))) (len_cons_ (len_cons_ (len_cons_ (fun _ _ _ _ h => len_nil_ h)))) : PD _ g (WB E) lam_2.body (dCall f_by_week (dCons (dC (.int 2026)) (dCons (dC (.int 54)) (dCons (dC (.int 0)) (dNil))))))
theorem lok_3 (T : Txt g mg) (B : Tbs g mg base) : LamOk lam_3 ∧ ∀ (A : Around) (outer : List PySem.Env) (s : Shared) (H : Hp) (E : XK) (f c : Addr), Ok (lamCx0 P w g.K mg base lam_3 A outer s H E f c) g (WB E) 10 → PD (lamCx0 P w g.K mg base lam_3 A outer s H E f c) g (WB E) lam_3.body (fun _ st => tab 3 st) := by
  have F_by_week := (fn_by_week (P := P) (w := w) (base := base) T B)
  refine ⟨lamOk_by (by decide +kernel) (by intros; rfl), fun A outer s H E f c O => ?_⟩
  exact (pd_call O F_by_week (by decide) (pa_cons (pd_int) (pa_cons (pd_int) (pa_cons (pd_int) (pa_nil)))) (len_cons_ (len_cons_ (len_cons_ (fun _ _ _ _ h => len_nil_ h)))) : PD _ g (WB E) lam_3.body (dCall f_by_week (dCons (dC (.int 2027)) (dCons (dC (.int 53)) (dCons (dC (.int 0)) (dNil))))))
theorem lok_4 (T : Txt g mg) (B : Tbs g mg base) : LamOk lam_4 ∧ ∀ (A : Around) (outer : List PySem.Env) (s : Shared) (H : Hp) (E : XK) (f c : Addr), Ok (lamCx0 P w g.K mg base lam_4 A outer s H E f c) g (WB E) 10 → PD (lamCx0 P w g.K mg base lam_4 A outer s H E f c) g (WB E) lam_4.body (fun _ st => tab 4 st) := by
  have F_by_week := (fn_by_week (P := P) (w := w) (base := base) T B)
  refine ⟨lamOk_by (by decide +kernel) (by intros; rfl), fun A outer s H E f c O => ?_⟩
  exact (pd_call O F_by_week (by decide) (pa_cons (pd_int) (pa_cons (pd_int) (pa_cons (pd_int) (pa_nil)))) (len_cons_ (len_cons_ (len_cons_ (fun _ _ _ _ h => len_nil_ h)))) : PD _ g (WB E) lam_4.body (dCall f_by_week (dCons (dC (.int 2026)) (dCons (dC (.int 0)) (dCons (dC (.int 0)) (dNil))))))
theorem lok_5 (T : Txt g mg) (B : Tbs g mg base) : LamOk lam_5 ∧ ∀ (A : Around) (outer : List PySem.Env) (s : Shared) (H : Hp) (E : XK) (f c : Addr), Ok (lamCx0 P w g.K mg base lam_5 A outer s H E f c) g (WB E) 10 → PD (lamCx0 P w g.K mg base lam_5 A outer s H E f c) g (WB E) lam_5.body (fun _ st => tab 5 st) := by
  have F_by_week := (fn_by_week (P := P) (w := w) (base := base) T B)
  refine ⟨lamOk_by (by decide +kernel) (by intros; rfl), fun A outer s H E f c O => ?_⟩
  exact (pd_call O F_by_week (by decide) (pa_cons (pd_int) (pa_cons (pd_int) (pa_cons (pd_int) (pa_nil)))) (len_cons_ (len_cons_ (len_cons_ (fun _ _ _ _ h => len_nil_ h)))) : PD _ g (WB E) lam_5.body (dCall f_by_week (dCons (dC (.int 2026)) (dCons (dC (.int 1)) (dCons (dC (.int 7)) (dNil))))))
theorem lok_6 (T : Txt g mg) (B : Tbs g mg base) : LamOk lam_6 ∧ ∀ (A : Around) (outer : List PySem.Env) (s : Shared) (H : Hp) (E : XK) (f c : Addr), Ok (lamCx0 P w g.K mg base lam_6 A outer s H E f c) g (WB E) 10 → PD (lamCx0 P w g.K mg base lam_6 A outer s H E f c) g (WB E) lam_6.body (fun _ st => tab 6 st) := by
  have F_nth_weekday := (fn_nth_weekday (P := P) (w := w) (base := base) T B)
  refine ⟨lamOk_by (by decide +kernel) (by intros; rfl), fun A outer s H E f c O => ?_⟩
  exact (pd_call O F_nth_weekday (by decide) (pa_cons (pd_int) (pa_cons (pd_int) (pa_cons (pd_int) (pa_cons (pd_int) (pa_nil))))) (len_cons_ (len_cons_ (len_cons_ (len_cons_ (fun _ _ _ _ h => len_nil_ h))))) : PD _ g (WB E) lam_6.body (dCall f_nth_weekday (dCons (dC (.int 2026)) (dCons (dC (.int 11)) (dCons (dC (.int 0)) (dCons (dC (.int 1)) (dNil)))))))
theorem lok_7 (T : Txt g mg) (B : Tbs g mg base) : LamOk lam_7 ∧ ∀ (A : Around) (outer : List PySem.Env) (s : Shared) (H : Hp) (E : XK) (f c : Addr), Ok (lamCx0 P w g.K mg base lam_7 A outer s H E f c) g (WB E) 10 → PD (lamCx0 P w g.K mg base lam_7 A outer s H E f c) g (WB E) lam_7.body (fun _ st => tab 7 st) := by
  have F_nth_weekday := (fn_nth_weekday (P := P) (w := w) (base := base) T B)
  refine ⟨lamOk_by (by decide +kernel) (by intros; rfl), fun A outer s H E f c O => ?_⟩
  exact (pd_call O F_nth_weekday (by decide) (pa_cons (pd_int) (pa_cons (pd_int) (pa_cons (pd_int) (pa_cons (pd_int) (pa_nil))))) (len_cons_ (len_cons_ (len_cons_ (len_cons_ (fun _ _ _ _ h => len_nil_ h))))) : PD _ g (WB E) lam_7.body (dCall f_nth_weekday (dCons (dC (.int 2026)) (dCons (dC (.int 11)) (dCons (dC (.int 5)) (dCons (dC (.int 1)) (dNil)))))))
theorem lok_8 (T : Txt g mg) (B : Tbs g mg base) : LamOk lam_8 ∧ ∀ (A : Around) (outer : List PySem.Env) (s : Shared) (H : Hp) (E : XK) (f c : Addr), Ok (lamCx0 P w g.K mg base lam_8 A outer s H E f c) g (WB E) 10 → PD (lamCx0 P w g.K mg base lam_8 A outer s H E f c) g (WB E) lam_8.body (fun _ st => tab 8 st) := by
  have F_nth_weekday := (fn_nth_weekday (P := P) (w := w) (base := base) T B)
  refine ⟨lamOk_by (by decide +kernel) (by intros; rfl), fun A outer s H E f c O => ?_⟩
  exact (pd_call O F_nth_weekday (by decide) (pa_cons (pd_int) (pa_cons (pd_int) (pa_cons (pd_int) (pa_cons (pd_int) (pa_nil))))) (len_cons_ (len_cons_ (len_cons_ (len_cons_ (fun _ _ _ _ h => len_nil_ h))))) : PD _ g (WB E) lam_8.body (dCall f_nth_weekday (dCons (dC (.int 2026)) (dCons (dC (.int 11)) (dCons (dC (.int 1)) (dCons (dC (.int 7)) (dNil)))))))
theorem lok_9 (T : Txt g mg) (B : Tbs g mg base) : LamOk lam_9 ∧ ∀ (A : Around) (outer : List PySem.Env) (s : Shared) (H : Hp) (E : XK) (f c : Addr), Ok (lamCx0 P w g.K mg base lam_9 A outer s H E f c) g (WB E) 10 → PD (lamCx0 P w g.K mg base lam_9 A outer s H E f c) g (WB E) lam_9.body (fun _ st => tab 9 st) := by
  have F_on_or_behind := (fn_on_or_behind (P := P) (w := w) (base := base) T B)
  refine ⟨lamOk_by (by decide +kernel) (by intros; rfl), fun A outer s H E f c O => ?_⟩
  exact (pd_call O F_on_or_behind (by decide) (pa_cons (pd_tup (pa_cons (pd_int) (pa_cons (pd_int) (pa_cons (pd_int) (pa_nil))))) (pa_cons (pd_int) (pa_nil))) (len_cons_ (len_cons_ (fun _ _ _ _ h => len_nil_ h))) : PD _ g (WB E) lam_9.body (dCall f_on_or_behind (dCons (dTup (dCons (dC (.int 2026)) (dCons (dC (.int 1)) (dCons (dC (.int 1)) (dNil))))) (dCons (dC (.int 7)) (dNil)))))
theorem lok_10 (T : Txt g mg) (B : Tbs g mg base) : LamOk lam_10 ∧ ∀ (A : Around) (outer : List PySem.Env) (s : Shared) (H : Hp) (E : XK) (f c : Addr), Ok (lamCx0 P w g.K mg base lam_10 A outer s H E f c) g (WB E) 10 → PD (lamCx0 P w g.K mg base lam_10 A outer s H E f c) g (WB E) lam_10.body (fun _ st => tab 10 st) := by
  have F_on_or_ahead := (fn_on_or_ahead (P := P) (w := w) (base := base) T B)
  refine ⟨lamOk_by (by decide +kernel) (by intros; rfl), fun A outer s H E f c O => ?_⟩
  exact (pd_call O F_on_or_ahead (by decide) (pa_cons (pd_tup (pa_cons (pd_int) (pa_cons (pd_int) (pa_cons (pd_int) (pa_nil))))) (pa_cons (pd_neg (pd_int)) (pa_nil))) (len_cons_ (len_cons_ (fun _ _ _ _ h => len_nil_ h))) : PD _ g (WB E) lam_10.body (dCall f_on_or_ahead (dCons (dTup (dCons (dC (.int 2026)) (dCons (dC (.int 1)) (dCons (dC (.int 1)) (dNil))))) (dCons (dNeg (dC (.int 1))) (dNil)))))
theorem lok_11 (T : Txt g mg) (B : Tbs g mg base) : LamOk lam_11 ∧ ∀ (A : Around) (outer : List PySem.Env) (s : Shared) (H : Hp) (E : XK) (f c : Addr), Ok (lamCx0 P w g.K mg base lam_11 A outer s H E f c) g (WB E) 10 → PD (lamCx0 P w g.K mg base lam_11 A outer s H E f c) g (WB E) lam_11.body (fun _ st => tab 11 st) := by
  have F_month_rows := (fn_month_rows (P := P) (w := w) (base := base) T B)
  refine ⟨lamOk_by (by decide +kernel) (by intros; rfl), fun A outer s H E f c O => ?_⟩
  exact (pd_call O F_month_rows (by decide) (pa_cons (pd_int) (pa_cons (pd_int) (pa_cons (pd_int) (pa_nil)))) (len_cons_ (len_cons_ (len_cons_ (fun _ _ _ _ h => len_nil_ h)))) : PD _ g (WB E) lam_11.body (dCall f_month_rows (dCons (dC (.int 2026)) (dCons (dC (.int 1)) (dCons (dC (.int 7)) (dNil))))))
theorem lok_12 (T : Txt g mg) (B : Tbs g mg base) : LamOk lam_12 ∧ ∀ (A : Around) (outer : List PySem.Env) (s : Shared) (H : Hp) (E : XK) (f c : Addr), Ok (lamCx0 P w g.K mg base lam_12 A outer s H E f c) g (WB E) 10 → PD (lamCx0 P w g.K mg base lam_12 A outer s H E f c) g (WB E) lam_12.body (fun _ st => tab 12 st) := by
  have F_count_weekdays := (fn_count_weekdays (P := P) (w := w) (base := base) T B)
  refine ⟨lamOk_by (by decide +kernel) (by intros; rfl), fun A outer s H E f c O => ?_⟩
  exact (pd_call O F_count_weekdays (by decide) (pa_cons (pd_tup (pa_cons (pd_int) (pa_cons (pd_int) (pa_cons (pd_int) (pa_nil))))) (pa_cons (pd_tup (pa_cons (pd_int) (pa_cons (pd_int) (pa_cons (pd_int) (pa_nil))))) (pa_cons (pd_tup (pa_cons (pd_int) (pa_nil))) (pa_nil)))) (len_cons_ (len_cons_ (len_cons_ (fun _ _ _ _ h => len_nil_ h)))) : PD _ g (WB E) lam_12.body (dCall f_count_weekdays (dCons (dTup (dCons (dC (.int 2026)) (dCons (dC (.int 1)) (dCons (dC (.int 1)) (dNil))))) (dCons (dTup (dCons (dC (.int 2026)) (dCons (dC (.int 1)) (dCons (dC (.int 2)) (dNil))))) (dCons (dTup (dCons (dC (.int 7)) (dNil))) (dNil))))))
theorem lams_ok (T : Txt g mg) (B : Tbs g mg base) : LamsOk P w mg base g 10 tab := by
  intro n l h
  by_cases h0 : n = 0
  · subst h0
    rw [T.l_0] at h
    cases h
    exact lok_0 T B
  by_cases h1 : n = 1
  · subst h1
    rw [T.l_1] at h
    cases h
    exact lok_1 T B
  by_cases h2 : n = 2
  · subst h2
    rw [T.l_2] at h
    cases h
    exact lok_2 T B
  by_cases h3 : n = 3
  · subst h3
    rw [T.l_3] at h
    cases h
    exact lok_3 T B
  by_cases h4 : n = 4
  · subst h4
    rw [T.l_4] at h
    cases h
    exact lok_4 T B
  by_cases h5 : n = 5
  · subst h5
    rw [T.l_5] at h
    cases h
    exact lok_5 T B
  by_cases h6 : n = 6
  · subst h6
    rw [T.l_6] at h
    cases h
    exact lok_6 T B
  by_cases h7 : n = 7
  · subst h7
    rw [T.l_7] at h
    cases h
    exact lok_7 T B
  by_cases h8 : n = 8
  · subst h8
    rw [T.l_8] at h
    cases h
    exact lok_8 T B
  by_cases h9 : n = 9
  · subst h9
    rw [T.l_9] at h
    cases h
    exact lok_9 T B
  by_cases h10 : n = 10
  · subst h10
    rw [T.l_10] at h
    cases h
    exact lok_10 T B
  by_cases h11 : n = 11
  · subst h11
    rw [T.l_11] at h
    cases h
    exact lok_11 T B
  by_cases h12 : n = 12
  · subst h12
    rw [T.l_12] at h
    cases h
    exact lok_12 T B
  rw [T.lam_no n (by omega)] at h
  cases h
/-! _law_told -/
def b__law_told : DS := dTry [("WeekError", true)] (dRet (dCallLam tab 0)) (dRet (dC (.str "WeekError")))
def f__law_told : List D → Store → R D := runB 1 b__law_told
theorem fn__law_told (T : Txt g mg) (B : Tbs g mg base) : FnD P w mg base g 12 "_law_told" 1 f__law_told := by
  have FL := (lams_ok (P := P) (w := w) (base := base) T B)
  refine (fn_D T.d__law_told sc__law_told rfl fun fa cdv A outer s H E O => ?_)
  exact ss_one (s_try (tb := [("WeekError", true)]) O T.e_WeekError T.catch_WeekError rfl rfl (fun W pn xe O => ss_one (s_ret (pd_callLam 0 O FL (by decide)))) (fun a oe pn => ss_one (s_ret (pd_str))))
/-! same_calendar -/
def y_same_calendar_1 : DE := dTup (dCons (dCall f_weekday_of (dCons (dCall f_day_number (dCons (dTup (dCons (dVar 3) (dCons (dC (.int 1)) (dCons (dC (.int 1)) (dNil))))) (dNil))) (dNil))) (dCons (dCall f_days_in_month (dCons (dVar 3) (dCons (dC (.int 2)) (dNil)))) (dNil)))
def b_same_calendar : DS := dSeq (dAsg (dLc false (dIt (dTup (dCons (dVar 0) (dCons (dVar 1) (dNil))))) (dgName 3) (dYes) y_same_calendar_1 [3]) (dgName 2)) (dRet (dBin aEq (dBin aIx (dVar 2) (dC (.int 0))) (dBin aIx (dVar 2) (dC (.int 1)))))
def f_same_calendar : List D → Store → R D := runB 4 b_same_calendar
theorem fn_same_calendar (T : Txt g mg) (B : Tbs g mg base) : FnD P w mg base g 5 "same_calendar" 2 f_same_calendar := by
  have F_day_number := (fn_day_number (P := P) (w := w) (base := base) T B)
  have F_days_in_month := (fn_days_in_month (P := P) (w := w) (base := base) T B)
  have F_weekday_of := (fn_weekday_of (P := P) (w := w) (base := base) T B)
  refine (fn_D T.d_same_calendar sc_same_calendar rfl fun fa cdv A outer s H E O => ?_)
  exact ss_cons (s_lc (i := 2) false (own := [(("one" : Str), 3)]) O (i_seq O (pd_tup (pa_cons (pd_var 0) (pa_cons (pd_var 1) (pa_nil))))) (blkOk_by (N := ["year", "other", "ends", "one"]) (sc := defScope s_same_calendar) (by decide +kernel)) (fun _ _ _ _ _ => g_name 3 (O.blk _ _ _ _ _)) (fun _ _ _ _ _ => ts_nil) (fun _ _ _ _ _ => pd_tup (pa_cons (pd_call (O.blk _ _ _ _ _) F_weekday_of (by decide) (pa_cons (pd_call (O.blk _ _ _ _ _) F_day_number (by decide) (pa_cons (pd_tup (pa_cons (pd_var 3) (pa_cons (pd_int) (pa_cons (pd_int) (pa_nil))))) (pa_nil)) (len_cons_ (fun _ _ _ _ h => len_nil_ h))) (pa_nil)) (len_cons_ (fun _ _ _ _ h => len_nil_ h))) (pa_cons (pd_call (O.blk _ _ _ _ _) F_days_in_month (by decide) (pa_cons (pd_var 3) (pa_cons (pd_int) (pa_nil))) (len_cons_ (len_cons_ (fun _ _ _ _ h => len_nil_ h)))) (pa_nil)))) (sw_true rfl rfl rfl (by decide +kernel))) (ss_one (s_ret (pd_cmp (oEq O) (pd_ix O (pd_var 2) (pd_int)) (pd_ix O (pd_var 2) (pd_int)))))
/-! weeks_from -/
def y_weeks_from_1 : DE := dBin aSub (dCall f_day_number (dCons (dVar 3) (dNil))) (dCall f_weekday_of (dCons (dCall f_day_number (dCons (dVar 3) (dNil))) (dNil)))
def b_weeks_from : DS := dSeq (dDrop (dCall f_check_date (dCons (dVar 0) (dNil)))) (dSeq (dDrop (dCall f_check_date (dCons (dVar 1) (dNil)))) (dSeq (dAsg (dLc false (dIt (dTup (dCons (dVar 0) (dCons (dVar 1) (dNil))))) (dgName 3) (dYes) y_weeks_from_1 [3]) (dgName 2)) (dRet (dBin aFdiv (dBin aSub (dBin aIx (dVar 2) (dC (.int 1))) (dBin aIx (dVar 2) (dC (.int 0)))) (dC (.int 7))))))
def f_weeks_from : List D → Store → R D := runB 4 b_weeks_from
theorem fn_weeks_from (T : Txt g mg) (B : Tbs g mg base) : FnD P w mg base g 5 "weeks_from" 2 f_weeks_from := by
  have F_check_date := (fn_check_date (P := P) (w := w) (base := base) T B)
  have F_day_number := (fn_day_number (P := P) (w := w) (base := base) T B)
  have F_weekday_of := (fn_weekday_of (P := P) (w := w) (base := base) T B)
  refine (fn_D T.d_weeks_from sc_weeks_from rfl fun fa cdv A outer s H E O => ?_)
  exact ss_cons (s_expr (pd_call O F_check_date (by decide) (pa_cons (pd_var 0) (pa_nil)) (len_cons_ (fun _ _ _ _ h => len_nil_ h)))) (ss_cons (s_expr (pd_call O F_check_date (by decide) (pa_cons (pd_var 1) (pa_nil)) (len_cons_ (fun _ _ _ _ h => len_nil_ h)))) (ss_cons (s_lc (i := 2) false (own := [(("date" : Str), 3)]) O (i_seq O (pd_tup (pa_cons (pd_var 0) (pa_cons (pd_var 1) (pa_nil))))) (blkOk_by (N := ["one", "other", "starts", "date"]) (sc := defScope s_weeks_from) (by decide +kernel)) (fun _ _ _ _ _ => g_name 3 (O.blk _ _ _ _ _)) (fun _ _ _ _ _ => ts_nil) (fun _ _ _ _ _ => pd_bin oSub (pd_call (O.blk _ _ _ _ _) F_day_number (by decide) (pa_cons (pd_var 3) (pa_nil)) (len_cons_ (fun _ _ _ _ h => len_nil_ h))) (pd_call (O.blk _ _ _ _ _) F_weekday_of (by decide) (pa_cons (pd_call (O.blk _ _ _ _ _) F_day_number (by decide) (pa_cons (pd_var 3) (pa_nil)) (len_cons_ (fun _ _ _ _ h => len_nil_ h))) (pa_nil)) (len_cons_ (fun _ _ _ _ h => len_nil_ h)))) (sw_true rfl rfl rfl (by decide +kernel))) (ss_one (s_ret (pd_bin oFdiv (pd_bin oSub (pd_ix O (pd_var 2) (pd_int)) (pd_ix O (pd_var 2) (pd_int))) (pd_int))))))
/-! _law_plain -/
def y__law_plain_1 : DE := dC (.int 1)
def b__law_plain : DS := dSeq (dAsg (dLst false (dCons (dLam 0) (dCons (dLam 1) (dCons (dLam 2) (dCons (dLam 3) (dCons (dLam 4) (dCons (dLam 5) (dCons (dLam 6) (dCons (dLam 7) (dCons (dLam 8) (dCons (dLam 9) (dCons (dLam 10) (dCons (dLam 11) (dCons (dLam 12) (dNil))))))))))))))) (dgName 0)) (dSeq (dIfS (dOr (dB (dBin aNe (dLc false (dIt (dVar 0)) (dgName 1) (dB (dBin aNe (dCall f__law_told (dCons (dVar 1) (dNil))) (dC (.str "WeekError")))) y__law_plain_1 [1]) (dLst false (dNil)))) (dOr (dB (dBin aNe (dCall f_week_of (dCons (dTup (dCons (dC (.int 2026)) (dCons (dC (.int 11)) (dCons (dC (.int 19)) (dNil))))) (dNil))) (dTup (dCons (dC (.int 2026)) (dCons (dC (.int 47)) (dCons (dC (.int 3)) (dNil))))))) (dOr (dB (dBin aNe (dCall f_week_of (dCons (dTup (dCons (dC (.int 2027)) (dCons (dC (.int 1)) (dCons (dC (.int 1)) (dNil))))) (dNil))) (dTup (dCons (dC (.int 2026)) (dCons (dC (.int 53)) (dCons (dC (.int 4)) (dNil))))))) (dB (dBin aNe (dTup (dCons (dCall f_weeks_in_year (dCons (dC (.int 2026)) (dNil))) (dCons (dCall f_weeks_in_year (dCons (dC (.int 2027)) (dNil))) (dNil)))) (dTup (dCons (dC (.int 53)) (dCons (dC (.int 52)) (dNil))))))))) (dRet (dC (.bl false))) (dNext)) (dSeq (dIfS (dNot (dAnd (dB (dBin aEq (dCall f_by_week (dCons (dC (.int 2026)) (dCons (dC (.int 53)) (dCons (dC (.int 4)) (dNil))))) (dTup (dCons (dC (.int 2027)) (dCons (dC (.int 1)) (dCons (dC (.int 1)) (dNil))))))) (dB (dBin aEq (dCall f_nth_weekday (dCons (dC (.int 2026)) (dCons (dC (.int 11)) (dCons (dNeg (dC (.int 1))) (dCons (dC (.int 6)) (dNil)))))) (dTup (dCons (dC (.int 2026)) (dCons (dC (.int 11)) (dCons (dC (.int 29)) (dNil))))))))) (dRet (dC (.bl false))) (dNext)) (dRet (dAndV (dBin aEq (dCall f_on_or_behind (dCons (dTup (dCons (dC (.int 2026)) (dCons (dC (.int 11)) (dCons (dC (.int 19)) (dNil))))) (dCons (dC (.int 0)) (dNil)))) (dTup (dCons (dC (.int 2026)) (dCons (dC (.int 11)) (dCons (dC (.int 23)) (dNil)))))) (dAndV (dBin aEq (dCall f_on_or_ahead (dCons (dTup (dCons (dC (.int 2026)) (dCons (dC (.int 11)) (dCons (dC (.int 19)) (dNil))))) (dCons (dC (.int 0)) (dNil)))) (dTup (dCons (dC (.int 2026)) (dCons (dC (.int 11)) (dCons (dC (.int 16)) (dNil)))))) (dAndV (dBin aEq (dBin aIx (dCall f_month_rows (dCons (dC (.int 2026)) (dCons (dC (.int 11)) (dCons (dC (.int 0)) (dNil))))) (dC (.int 0))) (dTup (dCons (dC (.int 0)) (dCons (dC (.int 0)) (dCons (dC (.int 0)) (dCons (dC (.int 0)) (dCons (dC (.int 0)) (dCons (dC (.int 0)) (dCons (dC (.int 1)) (dNil)))))))))) (dAndV (dBin aEq (dCall bLen (dCons (dCall f_month_rows (dCons (dC (.int 2026)) (dCons (dC (.int 11)) (dCons (dC (.int 0)) (dNil))))) (dNil))) (dC (.int 6))) (dAndV (dBin aEq (dCall f_count_weekdays (dCons (dTup (dCons (dC (.int 2026)) (dCons (dC (.int 11)) (dCons (dC (.int 1)) (dNil))))) (dCons (dTup (dCons (dC (.int 2026)) (dCons (dC (.int 11)) (dCons (dC (.int 30)) (dNil))))) (dCons (dTup (dCons (dC (.int 0)) (dCons (dC (.int 6)) (dNil)))) (dNil))))) (dC (.int 10))) (dAndV (dCall f_same_calendar (dCons (dC (.int 2026)) (dCons (dC (.int 2015)) (dNil)))) (dAndV (dBin aEq (dCall f_weeks_from (dCons (dTup (dCons (dC (.int 2026)) (dCons (dC (.int 11)) (dCons (dC (.int 15)) (dNil))))) (dCons (dTup (dCons (dC (.int 2026)) (dCons (dC (.int 11)) (dCons (dC (.int 16)) (dNil))))) (dNil)))) (dC (.int 1))) (dAndV (dBin aEq (dCall f_first_week (dCons (dC (.int 2026)) (dNil))) (dC (.int 739614))) (dAndV (dBin aEq (dCall f_weekday_of (dCons (dC (.int 1)) (dNil))) (dC (.int 0))) (dBin aEq (dCall f_count_weekdays (dCons (dTup (dCons (dC (.int 2026)) (dCons (dC (.int 1)) (dCons (dC (.int 2)) (dNil))))) (dCons (dTup (dCons (dC (.int 2026)) (dCons (dC (.int 1)) (dCons (dC (.int 1)) (dNil))))) (dCons (dTup (dCons (dC (.int 0)) (dNil))) (dNil))))) (dC (.int 0)))))))))))))))
def f__law_plain : List D → Store → R D := runB 2 b__law_plain
theorem fn__law_plain (T : Txt g mg) (B : Tbs g mg base) : FnD P w mg base g 13 "_law_plain" 0 f__law_plain := by
  have F__law_told := (fn__law_told (P := P) (w := w) (base := base) T B)
  have F_by_week := (fn_by_week (P := P) (w := w) (base := base) T B)
  have F_count_weekdays := (fn_count_weekdays (P := P) (w := w) (base := base) T B)
  have F_first_week := (fn_first_week (P := P) (w := w) (base := base) T B)
  have F_month_rows := (fn_month_rows (P := P) (w := w) (base := base) T B)
  have F_nth_weekday := (fn_nth_weekday (P := P) (w := w) (base := base) T B)
  have F_on_or_ahead := (fn_on_or_ahead (P := P) (w := w) (base := base) T B)
  have F_on_or_behind := (fn_on_or_behind (P := P) (w := w) (base := base) T B)
  have F_same_calendar := (fn_same_calendar (P := P) (w := w) (base := base) T B)
  have F_week_of := (fn_week_of (P := P) (w := w) (base := base) T B)
  have F_weekday_of := (fn_weekday_of (P := P) (w := w) (base := base) T B)
  have F_weeks_from := (fn_weeks_from (P := P) (w := w) (base := base) T B)
  have F_weeks_in_year := (fn_weeks_in_year (P := P) (w := w) (base := base) T B)
  refine (fn_L T.d__law_plain B.t__law_plain T.mT__law_plain T.hu__law_plain sc__law_plain rfl fun fa cdv A outer s H E O M => ?_)
  exact ss_cons (s_asg (pd_lst false (pa_cons (pd_lam 0 (l := lam_0) M T.l_0) (pa_cons (pd_lam 1 (l := lam_1) M T.l_1) (pa_cons (pd_lam 2 (l := lam_2) M T.l_2) (pa_cons (pd_lam 3 (l := lam_3) M T.l_3) (pa_cons (pd_lam 4 (l := lam_4) M T.l_4) (pa_cons (pd_lam 5 (l := lam_5) M T.l_5) (pa_cons (pd_lam 6 (l := lam_6) M T.l_6) (pa_cons (pd_lam 7 (l := lam_7) M T.l_7) (pa_cons (pd_lam 8 (l := lam_8) M T.l_8) (pa_cons (pd_lam 9 (l := lam_9) M T.l_9) (pa_cons (pd_lam 10 (l := lam_10) M T.l_10) (pa_cons (pd_lam 11 (l := lam_11) M T.l_11) (pa_cons (pd_lam 12 (l := lam_12) M T.l_12) (pa_nil))))))))))))))) (g_name 0 O)) (ss_cons (s_if (pt_w (pw_or (pt_cmp (oNe O) (pd_lc false (own := [(("f" : Str), 1)]) O (i_seq O (pd_var 0)) (blkOk_by (N := ["bad", "f"]) (sc := defScope s__law_plain) (by decide +kernel)) (fun _ _ _ _ _ => g_name 1 (O.blk _ _ _ _ _)) (fun _ _ _ _ _ => ts_one (pt_cmp (oNe (O.blk _ _ _ _ _)) (pd_call (O.blk _ _ _ _ _) F__law_told (by decide) (pa_cons (pd_var 1) (pa_nil)) (len_cons_ (fun _ _ _ _ h => len_nil_ h))) (pd_str))) (fun _ _ _ _ _ => pd_int)) (pd_lst false (pa_nil))) (pw_or (pt_cmp (oNe O) (pd_call O F_week_of (by decide) (pa_cons (pd_tup (pa_cons (pd_int) (pa_cons (pd_int) (pa_cons (pd_int) (pa_nil))))) (pa_nil)) (len_cons_ (fun _ _ _ _ h => len_nil_ h))) (pd_tup (pa_cons (pd_int) (pa_cons (pd_int) (pa_cons (pd_int) (pa_nil)))))) (pw_or (pt_cmp (oNe O) (pd_call O F_week_of (by decide) (pa_cons (pd_tup (pa_cons (pd_int) (pa_cons (pd_int) (pa_cons (pd_int) (pa_nil))))) (pa_nil)) (len_cons_ (fun _ _ _ _ h => len_nil_ h))) (pd_tup (pa_cons (pd_int) (pa_cons (pd_int) (pa_cons (pd_int) (pa_nil)))))) (pw_or1 (pt_cmp (oNe O) (pd_tup (pa_cons (pd_call O F_weeks_in_year (by decide) (pa_cons (pd_int) (pa_nil)) (len_cons_ (fun _ _ _ _ h => len_nil_ h))) (pa_cons (pd_call O F_weeks_in_year (by decide) (pa_cons (pd_int) (pa_nil)) (len_cons_ (fun _ _ _ _ h => len_nil_ h))) (pa_nil)))) (pd_tup (pa_cons (pd_int) (pa_cons (pd_int) (pa_nil)))))))))) (ss_one (s_ret (pd_bl))) (ss_nil)) (ss_cons (s_if (pt_not (pt_w (pw_and (pt_cmp (oEq O) (pd_call O F_by_week (by decide) (pa_cons (pd_int) (pa_cons (pd_int) (pa_cons (pd_int) (pa_nil)))) (len_cons_ (len_cons_ (len_cons_ (fun _ _ _ _ h => len_nil_ h))))) (pd_tup (pa_cons (pd_int) (pa_cons (pd_int) (pa_cons (pd_int) (pa_nil)))))) (pw_and1 (pt_cmp (oEq O) (pd_call O F_nth_weekday (by decide) (pa_cons (pd_int) (pa_cons (pd_int) (pa_cons (pd_neg (pd_int)) (pa_cons (pd_int) (pa_nil))))) (len_cons_ (len_cons_ (len_cons_ (len_cons_ (fun _ _ _ _ h => len_nil_ h)))))) (pd_tup (pa_cons (pd_int) (pa_cons (pd_int) (pa_cons (pd_int) (pa_nil)))))))))) (ss_one (s_ret (pd_bl))) (ss_nil)) (ss_one (s_ret (pd_and (pd_cmp (oEq O) (pd_call O F_on_or_behind (by decide) (pa_cons (pd_tup (pa_cons (pd_int) (pa_cons (pd_int) (pa_cons (pd_int) (pa_nil))))) (pa_cons (pd_int) (pa_nil))) (len_cons_ (len_cons_ (fun _ _ _ _ h => len_nil_ h)))) (pd_tup (pa_cons (pd_int) (pa_cons (pd_int) (pa_cons (pd_int) (pa_nil)))))) (pd_and (pd_cmp (oEq O) (pd_call O F_on_or_ahead (by decide) (pa_cons (pd_tup (pa_cons (pd_int) (pa_cons (pd_int) (pa_cons (pd_int) (pa_nil))))) (pa_cons (pd_int) (pa_nil))) (len_cons_ (len_cons_ (fun _ _ _ _ h => len_nil_ h)))) (pd_tup (pa_cons (pd_int) (pa_cons (pd_int) (pa_cons (pd_int) (pa_nil)))))) (pd_and (pd_cmp (oEq O) (pd_ix O (pd_call O F_month_rows (by decide) (pa_cons (pd_int) (pa_cons (pd_int) (pa_cons (pd_int) (pa_nil)))) (len_cons_ (len_cons_ (len_cons_ (fun _ _ _ _ h => len_nil_ h))))) (pd_int)) (pd_tup (pa_cons (pd_int) (pa_cons (pd_int) (pa_cons (pd_int) (pa_cons (pd_int) (pa_cons (pd_int) (pa_cons (pd_int) (pa_cons (pd_int) (pa_nil)))))))))) (pd_and (pd_cmp (oEq O) (pd_callB (cLen O) T.n_len PySem.boot_len (pa_cons (pd_call O F_month_rows (by decide) (pa_cons (pd_int) (pa_cons (pd_int) (pa_cons (pd_int) (pa_nil)))) (len_cons_ (len_cons_ (len_cons_ (fun _ _ _ _ h => len_nil_ h))))) (pa_nil))) (pd_int)) (pd_and (pd_cmp (oEq O) (pd_call O F_count_weekdays (by decide) (pa_cons (pd_tup (pa_cons (pd_int) (pa_cons (pd_int) (pa_cons (pd_int) (pa_nil))))) (pa_cons (pd_tup (pa_cons (pd_int) (pa_cons (pd_int) (pa_cons (pd_int) (pa_nil))))) (pa_cons (pd_tup (pa_cons (pd_int) (pa_cons (pd_int) (pa_nil)))) (pa_nil)))) (len_cons_ (len_cons_ (len_cons_ (fun _ _ _ _ h => len_nil_ h))))) (pd_int)) (pd_and (pd_call O F_same_calendar (by decide) (pa_cons (pd_int) (pa_cons (pd_int) (pa_nil))) (len_cons_ (len_cons_ (fun _ _ _ _ h => len_nil_ h)))) (pd_and (pd_cmp (oEq O) (pd_call O F_weeks_from (by decide) (pa_cons (pd_tup (pa_cons (pd_int) (pa_cons (pd_int) (pa_cons (pd_int) (pa_nil))))) (pa_cons (pd_tup (pa_cons (pd_int) (pa_cons (pd_int) (pa_cons (pd_int) (pa_nil))))) (pa_nil))) (len_cons_ (len_cons_ (fun _ _ _ _ h => len_nil_ h)))) (pd_int)) (pd_and (pd_cmp (oEq O) (pd_call O F_first_week (by decide) (pa_cons (pd_int) (pa_nil)) (len_cons_ (fun _ _ _ _ h => len_nil_ h))) (pd_int)) (pd_and (pd_cmp (oEq O) (pd_call O F_weekday_of (by decide) (pa_cons (pd_int) (pa_nil)) (len_cons_ (fun _ _ _ _ h => len_nil_ h))) (pd_int)) (pd_one (pd_cmp (oEq O) (pd_call O F_count_weekdays (by decide) (pa_cons (pd_tup (pa_cons (pd_int) (pa_cons (pd_int) (pa_cons (pd_int) (pa_nil))))) (pa_cons (pd_tup (pa_cons (pd_int) (pa_cons (pd_int) (pa_cons (pd_int) (pa_nil))))) (pa_cons (pd_tup (pa_cons (pd_int) (pa_nil))) (pa_nil)))) (len_cons_ (len_cons_ (len_cons_ (fun _ _ _ _ h => len_nil_ h))))) (pd_int))))))))))))))))
/-! _law_dice -/
def b__law_dice : DS := dSeq (dIfS (dB (dChain aLt aLt (dBin aSub (dC (.int 0)) (dC (.int 10))) (dVar 0) (dC (.int 10)))) (dRet (dLst true (dCons (dCall bAbs (dCons (dVar 0) (dNil))) (dCons (dC (.int 0)) (dCons (dC (.int 2)) (dNil)))))) (dNext)) (dRet (dLst true (dCons (dVar 0) (dCons (dBin (aAdd false) (dC (.int 1)) (dBin aMod (dCall bInt (dCons (dVar 0) (dNil))) (dC (.int 1009)))) (dCons (dCall bInt (dCons (dBin aGe (dVar 0) (dBin aPow (dC (.int 10)) (dC (.int 18)))) (dNil))) (dNil))))))
def f__law_dice : List D → Store → R D := runB 1 b__law_dice
theorem fn__law_dice (T : Txt g mg) (B : Tbs g mg base) : FnD P w mg base g 1 "_law_dice" 1 f__law_dice := by
  refine (fn_D T.d__law_dice sc__law_dice rfl fun fa cdv A outer s H E O => ?_)
  exact ss_cons (s_if (pt_chain (oLt O) (oLt O) (pd_bin oSub (pd_int) (pd_int)) (pd_var 0) (pd_int)) (ss_one (s_ret (pd_lst true (pa_cons (pd_callB cAbs T.n_abs PyProof.Rows.boot_abs (pa_cons (pd_var 0) (pa_nil))) (pa_cons (pd_int) (pa_cons (pd_int) (pa_nil))))))) (ss_nil)) (ss_one (s_ret (pd_lst true (pa_cons (pd_var 0) (pa_cons (pd_bin (oAdd O) (pd_int) (pd_bin oMod (pd_callT cInt T.n_int PyProof.Rows.boot_int (pa_cons (pd_var 0) (pa_nil))) (pd_int))) (pa_cons (pd_callT cInt T.n_int PyProof.Rows.boot_int (pa_cons (pd_cmp oGe (pd_var 0) (pd_bin oPow (pd_int) (pd_int))) (pa_nil))) (pa_nil)))))))
/-! _law_rounds -/
def y__law_rounds_1 : DE := dCall f__law_dice (dCons (dVar 3) (dNil))
def b__law_rounds : DS := dSeq (dAsg (dSl false (dVar 0) (dNoP) (dP (dVar 1))) (dgName 2)) (dSeq (dIfS (dB (dBin aEq (dVar 2) (dLst false (dNil)))) (dAsg (dLst false (dCons (dC (.int 0)) (dNil))) (dgName 2)) (dNext)) (dRet (dLc false (dIt (dVar 2)) (dgName 3) (dYes) y__law_rounds_1 [3])))
def f__law_rounds : List D → Store → R D := runB 4 b__law_rounds
theorem fn__law_rounds (T : Txt g mg) (B : Tbs g mg base) : FnD P w mg base g 2 "_law_rounds" 2 f__law_rounds := by
  have F__law_dice := (fn__law_dice (P := P) (w := w) (base := base) T B)
  refine (fn_D T.d__law_rounds sc__law_rounds rfl fun fa cdv A outer s H E O => ?_)
  exact ss_cons (s_asg (pd_slice false O (pd_var 0) (po_none) (po_some (pd_var 1))) (g_name 2 O)) (ss_cons (s_if (pt_cmp (oEq O) (pd_var 2) (pd_lst false (pa_nil))) (ss_one (s_asg (pd_lst false (pa_cons (pd_int) (pa_nil))) (g_name 2 O))) (ss_nil)) (ss_one (s_ret (pd_lc false (own := [(("cell" : Str), 3)]) O (i_seq O (pd_var 2)) (blkOk_by (N := ["script", "most", "cells", "cell"]) (sc := defScope s__law_rounds) (by decide +kernel)) (fun _ _ _ _ _ => g_name 3 (O.blk _ _ _ _ _)) (fun _ _ _ _ _ => ts_nil) (fun _ _ _ _ _ => pd_call (O.blk _ _ _ _ _) F__law_dice (by decide) (pa_cons (pd_var 3) (pa_nil)) (len_cons_ (fun _ _ _ _ h => len_nil_ h)))))))
/-! _law_week -/
def y__law_week_1 : DE := dCall f_date_of (dCons (dBin (aAdd false) (dBin aSub (dVar 1) (dVar 2)) (dVar 4)) (dNil))
def y__law_week_2 : DE := dC (.int 1)
def y__law_week_3 : DE := dBin aIx (dVar 6) (dC (.int 0))
def y__law_week_4 : DE := dC (.int 1)
def t__law_week_1 : DT := dB (dBin aGt (dCall bLen (dCons (dLc false (dRng1 (dC (.int 7))) (dgName 4) (dAnd (dB (dBin aGe (dVar 8) (dC (.int 1)))) (dB (dBin aEq (dBin aIx (dCall f_date_of (dCons (dBin (aAdd false) (dVar 8) (dVar 4)) (dNil))) (dC (.int 0))) (dVar 5)))) y__law_week_4 [4]) (dNil))) (dC (.int 3)))
def w__law_week_1 : DS := dAsg (dTup (dCons (dBin (aAdd false) (dVar 9) (dC (.int 1))) (dCons (dBin aSub (dVar 8) (dC (.int 7))) (dNil)))) (dgTup 2 (dgCons (dgName 9) (dgCons (dgName 8) (dgNil))))
def b__law_week : DS := dSeq (dAsg (dCall f_day_number (dCons (dVar 0) (dNil))) (dgName 1)) (dSeq (dAsg (dBin aMod (dBin (aAdd false) (dVar 1) (dC (.int 6))) (dC (.int 7))) (dgName 2)) (dSeq (dAsg (dLc false (dRng1 (dC (.int 7))) (dgName 4) (dYes) y__law_week_1 [4]) (dgName 3)) (dSeq (dAsg (dBin aIx (dLc false (dIt (dVar 3)) (dgName 6) (dB (dBin aGt (dCall bLen (dCons (dLc false (dIt (dVar 3)) (dgName 7) (dB (dBin aEq (dBin aIx (dVar 7) (dC (.int 0))) (dBin aIx (dVar 6) (dC (.int 0))))) y__law_week_2 [7]) (dNil))) (dC (.int 3)))) y__law_week_3 [6]) (dC (.int 0))) (dgName 5)) (dSeq (dAsg (dBin aSub (dVar 1) (dVar 2)) (dgName 8)) (dSeq (dAsg (dC (.int 0)) (dgName 9)) (dSeq (dWhile t__law_week_1 w__law_week_1) (dRet (dTup (dCons (dVar 5) (dCons (dVar 9) (dCons (dVar 2) (dNil))))))))))))
def f__law_week : List D → Store → R D := runB 10 b__law_week
theorem fn__law_week (T : Txt g mg) (B : Tbs g mg base) : FnD P w mg base g 5 "_law_week" 1 f__law_week := by
  have F_date_of := (fn_date_of (P := P) (w := w) (base := base) T B)
  have F_day_number := (fn_day_number (P := P) (w := w) (base := base) T B)
  refine (fn_D T.d__law_week sc__law_week rfl fun fa cdv A outer s H E O => ?_)
  exact ss_cons (s_asg (pd_call O F_day_number (by decide) (pa_cons (pd_var 0) (pa_nil)) (len_cons_ (fun _ _ _ _ h => len_nil_ h))) (g_name 1 O)) (ss_cons (s_asg (pd_bin oMod (pd_bin (oAdd O) (pd_var 1) (pd_int)) (pd_int)) (g_name 2 O)) (ss_cons (s_asg (pd_lc false (own := [(("k" : Str), 4)]) O (i_range1 T.n_range (pd_int)) (blkOk_by (N := ["date", "number", "weekday", "days", "k", "year", "one", "other", "start", "week"]) (sc := defScope s__law_week) (by decide +kernel)) (fun _ _ _ _ _ => g_name 4 (O.blk _ _ _ _ _)) (fun _ _ _ _ _ => ts_nil) (fun _ _ _ _ _ => pd_call (O.blk _ _ _ _ _) F_date_of (by decide) (pa_cons (pd_bin (oAdd (O.blk _ _ _ _ _)) (pd_bin oSub (pd_var 1) (pd_var 2)) (pd_var 4)) (pa_nil)) (len_cons_ (fun _ _ _ _ h => len_nil_ h)))) (g_name 3 O)) (ss_cons (s_asg (pd_ix O (pd_lc false (own := [(("one" : Str), 6)]) O (i_seq O (pd_var 3)) (blkOk_by (N := ["date", "number", "weekday", "days", "k", "year", "one", "other", "start", "week"]) (sc := defScope s__law_week) (by decide +kernel)) (fun _ _ _ _ _ => g_name 6 (O.blk _ _ _ _ _)) (fun _ _ _ _ _ => ts_one (pt_cmp oGt (pd_callB (cLen (O.blk _ _ _ _ _)) T.n_len PySem.boot_len (pa_cons (pd_lc false (own := [(("other" : Str), 7)]) (O.blk _ _ _ _ _) (i_seq (O.blk _ _ _ _ _) (pd_var 3)) (by refine blkOk_by (N := ["date", "number", "weekday", "days", "k", "year", "one", "other", "start", "week"]) ?_; simp only [L2.Cx.blk, compEnvC, relabel_eq]; show L2.blkC _ (relS (defScope s__law_week) _) _ _ = true; decide +kernel) (fun _ _ _ _ _ => g_name 7 ((O.blk _ _ _ _ _).blk _ _ _ _ _)) (fun _ _ _ _ _ => ts_one (pt_cmp (oEq ((O.blk _ _ _ _ _).blk _ _ _ _ _)) (pd_ix ((O.blk _ _ _ _ _).blk _ _ _ _ _) (pd_var 7) (pd_int)) (pd_ix ((O.blk _ _ _ _ _).blk _ _ _ _ _) (pd_var 6) (pd_int)))) (fun _ _ _ _ _ => pd_int)) (pa_nil))) (pd_int))) (fun _ _ _ _ _ => pd_ix (O.blk _ _ _ _ _) (pd_var 6) (pd_int))) (pd_int)) (g_name 5 O)) (ss_cons (s_asg (pd_bin oSub (pd_var 1) (pd_var 2)) (g_name 8 O)) (ss_cons (s_asg (pd_int) (g_name 9 O)) (ss_cons (s_while O (pt_cmp oGt (pd_callB (cLen O) T.n_len PySem.boot_len (pa_cons (pd_lc false (own := [(("k" : Str), 4)]) O (i_range1 T.n_range (pd_int)) (blkOk_by (N := ["date", "number", "weekday", "days", "k", "year", "one", "other", "start", "week"]) (sc := defScope s__law_week) (by decide +kernel)) (fun _ _ _ _ _ => g_name 4 (O.blk _ _ _ _ _)) (fun _ _ _ _ _ => ts_one (pt_w (pw_and (pt_cmp oGe (pd_var 8) (pd_int)) (pw_and1 (pt_cmp (oEq (O.blk _ _ _ _ _)) (pd_ix (O.blk _ _ _ _ _) (pd_call (O.blk _ _ _ _ _) F_date_of (by decide) (pa_cons (pd_bin (oAdd (O.blk _ _ _ _ _)) (pd_var 8) (pd_var 4)) (pa_nil)) (len_cons_ (fun _ _ _ _ h => len_nil_ h))) (pd_int)) (pd_var 5)))))) (fun _ _ _ _ _ => pd_int)) (pa_nil))) (pd_int)) (ss_one (s_asg (pd_tup (pa_cons (pd_bin (oAdd O) (pd_var 9) (pd_int)) (pa_cons (pd_bin oSub (pd_var 8) (pd_int)) (pa_nil)))) (g_tup O (gs_cons (g_name 9 O) (gs_cons (g_name 8 O) (gs_nil))))))) (ss_one (s_ret (pd_tup (pa_cons (pd_var 5) (pa_cons (pd_var 9) (pa_cons (pd_var 2) (pa_nil)))))))))))))
/-! law -/
def p_law_1 : DS := dAsg (dTup (dCons (dCall f__law_date (dCons (dVar 1) (dNil))) (dCons (dCall f__law_date (dCons (dVar 1) (dNil))) (dNil)))) (dgTup 2 (dgCons (dgName 2) (dgCons (dgName 3) (dgNil))))
def p_law_2 : DS := dAsg (dCall f__law_week (dCons (dVar 2) (dNil))) (dgTup 3 (dgCons (dgName 4) (dgCons (dgName 5) (dgCons (dgName 6) (dgNil)))))
def p_law_3 : DS := dIfS (dOr (dB (dBin aNe (dCall f_week_of (dCons (dVar 2) (dNil))) (dTup (dCons (dVar 4) (dCons (dVar 5) (dCons (dVar 6) (dNil))))))) (dB (dBin aNe (dCall f_by_week (dCons (dVar 4) (dCons (dVar 5) (dCons (dVar 6) (dNil))))) (dVar 2)))) (dRet (dC (.bl false))) (dNext)
def p_law_4 : DS := dIfS (dB (dBin aNe (dCall f_first_week (dCons (dVar 4) (dNil))) (dBin aSub (dBin aSub (dCall f_day_number (dCons (dVar 2) (dNil))) (dVar 6)) (dBin (aMul false) (dC (.int 7)) (dBin aSub (dVar 5) (dC (.int 1))))))) (dRet (dC (.bl false))) (dNext)
def y_law_1 : DE := dCall f__law_week (dCons (dTup (dCons (dBin aIx (dVar 2) (dC (.int 0))) (dCons (dC (.int 12)) (dCons (dVar 8) (dNil))))) (dNil))
def p_law_5 : DS := dAsg (dLc false (dIt (dTup (dCons (dC (.int 24)) (dCons (dC (.int 28)) (dCons (dC (.int 31)) (dNil)))))) (dgName 8) (dYes) y_law_1 [8]) (dgName 7)
def y_law_2 : DE := dBin aIx (dVar 10) (dC (.int 1))
def p_law_6 : DS := dAsg (dCall bMaxA (dCons (dLc false (dIt (dVar 7)) (dgName 10) (dB (dBin aEq (dBin aIx (dVar 10) (dC (.int 0))) (dBin aIx (dVar 2) (dC (.int 0))))) y_law_2 [10]) (dNil))) (dgName 9)
def p_law_7 : DS := dIfS (dB (dBin aNe (dCall f_weeks_in_year (dCons (dBin aIx (dVar 2) (dC (.int 0))) (dNil))) (dVar 9))) (dRet (dC (.bl false))) (dNext)
def y_law_3 : DE := dTup (dCons (dBin aIx (dVar 2) (dC (.int 0))) (dCons (dBin aIx (dVar 2) (dC (.int 1))) (dCons (dVar 8) (dNil))))
def p_law_8 : DS := dAsg (dLc false (dRng2 (dC (.int 1)) (dBin (aAdd false) (dCall f_days_in_month (dCons (dBin aIx (dVar 2) (dC (.int 0))) (dCons (dBin aIx (dVar 2) (dC (.int 1))) (dNil)))) (dC (.int 1)))) (dgName 8) (dYes) y_law_3 [8]) (dgName 11)
def p_law_9 : DS := dAsg (dTup (dCons (dCall f__law_roll (dCons (dVar 1) (dCons (dC (.int 7)) (dNil)))) (dCons (dBin aSub (dCall f__law_roll (dCons (dVar 1) (dCons (dC (.int 13)) (dNil)))) (dC (.int 6))) (dNil)))) (dgTup 2 (dgCons (dgName 12) (dgCons (dgName 13) (dgNil))))
def y_law_4 : DE := dVar 8
def p_law_10 : DS := dAsg (dLc false (dIt (dVar 11)) (dgName 8) (dB (dBin aEq (dBin aMod (dBin (aAdd false) (dCall f_day_number (dCons (dVar 8) (dNil))) (dC (.int 6))) (dC (.int 7))) (dVar 12))) y_law_4 [8]) (dgName 14)
def p_law_11 : DS := dAsg (dIf (dOr (dB (dBin aEq (dVar 13) (dC (.int 0)))) (dB (dBin aGt (dCall bMax2 (dCons (dVar 13) (dCons (dNeg (dVar 13)) (dNil)))) (dCall bLen (dCons (dVar 14) (dNil)))))) (dC (.str "WeekError")) (dIf (dB (dBin aGt (dVar 13) (dC (.int 0)))) (dBin aIx (dVar 14) (dBin aSub (dVar 13) (dC (.int 1)))) (dBin aIx (dVar 14) (dVar 13)))) (dgName 15)
def p_law_12 : DS := dIfS (dB (dBin aNe (dTold ["WeekError"] "WeekError" (dCall f_nth_weekday (dCons (dBin aIx (dVar 2) (dC (.int 0))) (dCons (dBin aIx (dVar 2) (dC (.int 1))) (dCons (dVar 13) (dCons (dVar 12) (dNil))))))) (dVar 15))) (dRet (dC (.bl false))) (dNext)
def p_law_13 : DS := dAsg (dCall f_day_number (dCons (dVar 2) (dNil))) (dgName 16)
def y_law_5 : DE := dVar 19
def y_law_6 : DE := dVar 19
def p_law_14 : DS := dPar [17, 18] (dCons (dBin aIx (dLc false (dRng2 (dVar 16) (dBin (aAdd false) (dVar 16) (dC (.int 7)))) (dgName 19) (dB (dBin aEq (dBin aMod (dBin (aAdd false) (dVar 19) (dC (.int 6))) (dC (.int 7))) (dVar 12))) y_law_5 [19]) (dC (.int 0))) (dCons (dBin aIx (dLc false (dRng2 (dBin aSub (dVar 16) (dC (.int 6))) (dBin (aAdd false) (dVar 16) (dC (.int 1)))) (dgName 19) (dB (dBin aEq (dBin aMod (dBin (aAdd false) (dVar 19) (dC (.int 6))) (dC (.int 7))) (dVar 12))) y_law_6 [19]) (dC (.int 0))) (dNil)))
def p_law_15 : DS := dIfS (dOr (dB (dBin aNe (dCall f_on_or_behind (dCons (dVar 2) (dCons (dVar 12) (dNil)))) (dCall f_date_of (dCons (dVar 17) (dNil))))) (dB (dBin aNe (dCall f_on_or_ahead (dCons (dVar 2) (dCons (dVar 12) (dNil)))) (dCall f_date_of (dCons (dVar 18) (dNil)))))) (dRet (dC (.bl false))) (dNext)
def p_law_16 : DS := dAsg (dCall f_month_rows (dCons (dBin aIx (dVar 2) (dC (.int 0))) (dCons (dBin aIx (dVar 2) (dC (.int 1))) (dCons (dVar 12) (dNil))))) (dgName 20)
def p_law_17 : DS := dAsg (dLst false (dNil)) (dgName 21)
def l_law_1 : DS := dAsg (dBin (aAdd false) (dVar 21) (dCall (bList false) (dCons (dVar 22) (dNil)))) (dgName 21)
def p_law_18 : DS := dFor (dIt (dVar 20)) (dgName 22) l_law_1
def y_law_7 : DE := dVar 8
def p_law_19 : DS := dIfS (dOr (dB (dBin aNe (dLc false (dIt (dVar 21)) (dgName 8) (dB (dBin aGt (dVar 8) (dC (.int 0)))) y_law_7 [8]) (dListR2 false (dC (.int 1)) (dBin (aAdd false) (dCall bLen (dCons (dVar 11) (dNil))) (dC (.int 1)))))) (dOr (dB (dBin aNe (dBin aMod (dCall bLen (dCons (dVar 21) (dNil))) (dC (.int 7))) (dC (.int 0)))) (dB (dBin aGt (dCall bLen (dCons (dVar 21) (dNil))) (dC (.int 42)))))) (dRet (dC (.bl false))) (dNext)
def y_law_8 : DE := dC (.int 1)
def p_law_20 : DS := dIfS (dB (dBin aNe (dLc false (dIt (dVar 20)) (dgName 22) (dB (dBin aEq (dCall bMaxA (dCons (dVar 22) (dNil))) (dC (.int 0)))) y_law_8 [22]) (dLst false (dNil)))) (dRet (dC (.bl false))) (dNext)
def y_law_9 : DE := dBin aMod (dBin aSub (dBin aSub (dCall f_day_number (dCons (dBin aIx (dVar 11) (dBin aSub (dVar 8) (dC (.int 1)))) (dNil))) (dVar 19)) (dC (.int 1))) (dC (.int 7))
def p_law_21 : DS := dIfS (dB (dBin aNe (dLc false (dEnum (dVar 21)) (dgTup 2 (dgCons (dgName 19) (dgCons (dgName 8) (dgNil)))) (dB (dBin aGt (dVar 8) (dC (.int 0)))) y_law_9 [19, 8]) (dBin (aMul false) (dLst false (dCons (dVar 12) (dNil))) (dCall bLen (dCons (dVar 11) (dNil)))))) (dRet (dC (.bl false))) (dNext)
def p_law_22 : DS := dIfS (dB (dBin (aIn false) (dC (.int 0)) (dSl false (dVar 21) (dP (dIndex (dVar 21) (dC (.int 1)))) (dP (dIndex (dVar 21) (dCall bLen (dCons (dVar 11) (dNil)))))))) (dRet (dC (.bl false))) (dNext)
def y_law_10 : DE := dCall f__law_roll (dCons (dVar 1) (dCons (dC (.int 7)) (dNil)))
def p_law_23 : DS := dAsg (dTup (dCons (dLc false (dRng1 (dCall f__law_roll (dCons (dVar 1) (dCons (dC (.int 4)) (dNil))))) (dgName 19) (dYes) y_law_10 [19]) (dCons (dBin aSub (dCall f__law_roll (dCons (dVar 1) (dCons (dC (.int 60)) (dNil)))) (dC (.int 5))) (dNil)))) (dgTup 2 (dgCons (dgName 23) (dgCons (dgName 24) (dgNil))))
def p_law_24 : DS := dAsg (dCall f_date_of (dCons (dBin (aAdd false) (dVar 16) (dVar 24)) (dNil))) (dgName 25)
def y_law_11 : DE := dVar 19
def p_law_25 : DS := dIfS (dB (dBin aNe (dCall f_count_weekdays (dCons (dVar 2) (dCons (dVar 25) (dCons (dVar 23) (dNil))))) (dCall bLen (dCons (dLc false (dRng2 (dVar 16) (dBin (aAdd false) (dBin (aAdd false) (dVar 16) (dVar 24)) (dC (.int 1)))) (dgName 19) (dB (dBin (aIn false) (dBin aMod (dBin (aAdd false) (dVar 19) (dC (.int 6))) (dC (.int 7))) (dVar 23))) y_law_11 [19]) (dNil))))) (dRet (dC (.bl false))) (dNext)
def y_law_12 : DE := dBin aMod (dCall f_day_number (dCons (dTup (dCons (dVar 10) (dCons (dC (.int 1)) (dCons (dC (.int 1)) (dNil))))) (dNil))) (dC (.int 7))
def p_law_26 : DS := dAsg (dLc false (dIt (dLst false (dCons (dBin aIx (dVar 2) (dC (.int 0))) (dCons (dBin aIx (dVar 3) (dC (.int 0))) (dNil))))) (dgName 10) (dYes) y_law_12 [10]) (dgName 26)
def p_law_27 : DS := dIfS (dB (dBin aNe (dCall f_same_calendar (dCons (dBin aIx (dVar 2) (dC (.int 0))) (dCons (dBin aIx (dVar 3) (dC (.int 0))) (dNil)))) (dAndV (dBin aEq (dBin aIx (dVar 26) (dC (.int 0))) (dBin aIx (dVar 26) (dC (.int 1)))) (dBin aEq (dCall f_days_in_month (dCons (dBin aIx (dVar 2) (dC (.int 0))) (dCons (dC (.int 2)) (dNil)))) (dCall f_days_in_month (dCons (dBin aIx (dVar 3) (dC (.int 0))) (dCons (dC (.int 2)) (dNil)))))))) (dRet (dC (.bl false))) (dNext)
def p_law_28 : DS := dIfS (dB (dBin aNe (dCall f_weeks_from (dCons (dVar 2) (dCons (dVar 3) (dNil)))) (dBin aFdiv (dBin (aAdd false) (dBin aSub (dBin aSub (dCall f_day_number (dCons (dVar 3) (dNil))) (dBin aMod (dBin (aAdd false) (dCall f_day_number (dCons (dVar 3) (dNil))) (dC (.int 6))) (dC (.int 7)))) (dVar 16)) (dVar 6)) (dC (.int 7))))) (dRet (dC (.bl false))) (dNext)
def l_law_2 : DS := dSeq (p_law_1) (dSeq (p_law_2) (dSeq (p_law_3) (dSeq (p_law_4) (dSeq (p_law_5) (dSeq (p_law_6) (dSeq (p_law_7) (dSeq (p_law_8) (dSeq (p_law_9) (dSeq (p_law_10) (dSeq (p_law_11) (dSeq (p_law_12) (dSeq (p_law_13) (dSeq (p_law_14) (dSeq (p_law_15) (dSeq (p_law_16) (dSeq (p_law_17) (dSeq (p_law_18) (dSeq (p_law_19) (dSeq (p_law_20) (dSeq (p_law_21) (dSeq (p_law_22) (dSeq (p_law_23) (dSeq (p_law_24) (dSeq (p_law_25) (dSeq (p_law_26) (dSeq (p_law_27) (p_law_28)))))))))))))))))))))))))))
def b_law : DS := dSeq (dFor (dIt (dCall f__law_rounds (dCons (dVar 0) (dCons (dC (.int 1)) (dNil))))) (dgName 1) l_law_2) (dRet (dCall f__law_plain (dNil)))
def f_law : List D → Store → R D := runB 27 b_law
theorem ok_law (T : Txt g mg) (B : Tbs g mg base) {fa : Addr} {oc kV doc pm ct : Value} {od an : Option Addr} {osl : Array (Option Value)} {cA : Addr} (hc : (g.cp "law").1 = cA) (lk : g.K.lookup fa = some ⟨oc, od, .func (PySem.W.fnOf "law" "law" (defArgs s_law) (defBody s_law) (defScope s_law) .none kV doc pm an (.ref cA) ct), osl⟩) (hcd : PySem.W.codeIn g.K (.ref cA) "law" = true) : L2.FnOk P w g.K mg base (L2.CX P w) 16 fa (PySem.W.fnOf "law" "law" (defArgs s_law) (defBody s_law) (defScope s_law) .none kV doc pm an (.ref cA) ct) ["script"] (spD g 1 f_law) := by
  subst hc
  have F__law_date := (fn__law_date (P := P) (w := w) (base := base) T B)
  have F__law_plain := (fn__law_plain (P := P) (w := w) (base := base) T B)
  have F__law_roll := (fn__law_roll (P := P) (w := w) (base := base) T B)
  have F__law_rounds := (fn__law_rounds (P := P) (w := w) (base := base) T B)
  have F__law_week := (fn__law_week (P := P) (w := w) (base := base) T B)
  have F_by_week := (fn_by_week (P := P) (w := w) (base := base) T B)
  have F_count_weekdays := (fn_count_weekdays (P := P) (w := w) (base := base) T B)
  have F_date_of := (fn_date_of (P := P) (w := w) (base := base) T B)
  have F_day_number := (fn_day_number (P := P) (w := w) (base := base) T B)
  have F_days_in_month := (fn_days_in_month (P := P) (w := w) (base := base) T B)
  have F_first_week := (fn_first_week (P := P) (w := w) (base := base) T B)
  have F_month_rows := (fn_month_rows (P := P) (w := w) (base := base) T B)
  have F_nth_weekday := (fn_nth_weekday (P := P) (w := w) (base := base) T B)
  have F_on_or_ahead := (fn_on_or_ahead (P := P) (w := w) (base := base) T B)
  have F_on_or_behind := (fn_on_or_behind (P := P) (w := w) (base := base) T B)
  have F_same_calendar := (fn_same_calendar (P := P) (w := w) (base := base) T B)
  have F_week_of := (fn_week_of (P := P) (w := w) (base := base) T B)
  have F_weeks_from := (fn_weeks_from (P := P) (w := w) (base := base) T B)
  have F_weeks_in_year := (fn_weeks_in_year (P := P) (w := w) (base := base) T B)
  refine ok_L lk hcd B.t_law T.mT_law T.hu_law sc_law rfl fun A outer s H E O M => ?_
  exact ss_cons (s_for O (i_seq O (pd_call O F__law_rounds (by decide) (pa_cons (pd_var 0) (pa_cons (pd_int) (pa_nil))) (len_cons_ (len_cons_ (fun _ _ _ _ h => len_nil_ h))))) (g_name 1 O) (ss_cons (s_asg (pd_tup (pa_cons (pd_call O F__law_date (by decide) (pa_cons (pd_var 1) (pa_nil)) (len_cons_ (fun _ _ _ _ h => len_nil_ h))) (pa_cons (pd_call O F__law_date (by decide) (pa_cons (pd_var 1) (pa_nil)) (len_cons_ (fun _ _ _ _ h => len_nil_ h))) (pa_nil)))) (g_tup O (gs_cons (g_name 2 O) (gs_cons (g_name 3 O) (gs_nil))))) (ss_cons (s_asg (pd_call O F__law_week (by decide) (pa_cons (pd_var 2) (pa_nil)) (len_cons_ (fun _ _ _ _ h => len_nil_ h))) (g_tup O (gs_cons (g_name 4 O) (gs_cons (g_name 5 O) (gs_cons (g_name 6 O) (gs_nil)))))) (ss_cons (s_if (pt_w (pw_or (pt_cmp (oNe O) (pd_call O F_week_of (by decide) (pa_cons (pd_var 2) (pa_nil)) (len_cons_ (fun _ _ _ _ h => len_nil_ h))) (pd_tup (pa_cons (pd_var 4) (pa_cons (pd_var 5) (pa_cons (pd_var 6) (pa_nil)))))) (pw_or1 (pt_cmp (oNe O) (pd_call O F_by_week (by decide) (pa_cons (pd_var 4) (pa_cons (pd_var 5) (pa_cons (pd_var 6) (pa_nil)))) (len_cons_ (len_cons_ (len_cons_ (fun _ _ _ _ h => len_nil_ h))))) (pd_var 2))))) (ss_one (s_ret (pd_bl))) (ss_nil)) (ss_cons (s_if (pt_cmp (oNe O) (pd_call O F_first_week (by decide) (pa_cons (pd_var 4) (pa_nil)) (len_cons_ (fun _ _ _ _ h => len_nil_ h))) (pd_bin oSub (pd_bin oSub (pd_call O F_day_number (by decide) (pa_cons (pd_var 2) (pa_nil)) (len_cons_ (fun _ _ _ _ h => len_nil_ h))) (pd_var 6)) (pd_bin oMul (pd_int) (pd_bin oSub (pd_var 5) (pd_int))))) (ss_one (s_ret (pd_bl))) (ss_nil)) (ss_cons (s_lc (i := 7) false (own := [(("day" : Str), 8)]) O (i_seq O (pd_tup (pa_cons (pd_int) (pa_cons (pd_int) (pa_cons (pd_int) (pa_nil)))))) (blkOk_by (N := ["script", "dice", "date", "other", "year", "week", "weekday", "ends", "day", "last", "one", "days", "wanted", "place", "same", "due", "number", "behind", "ahead", "k", "rows", "flat", "row", "some", "far", "end", "alike"]) (sc := defScope s_law) (by decide +kernel)) (fun _ _ _ _ _ => g_name 8 (O.blk _ _ _ _ _)) (fun _ _ _ _ _ => ts_nil) (fun _ _ _ _ _ => pd_call (O.blk _ _ _ _ _) F__law_week (by decide) (pa_cons (pd_tup (pa_cons (pd_ix (O.blk _ _ _ _ _) (pd_var 2) (pd_int)) (pa_cons (pd_int) (pa_cons (pd_var 8) (pa_nil))))) (pa_nil)) (len_cons_ (fun _ _ _ _ h => len_nil_ h))) (sw_true rfl rfl rfl (by decide +kernel))) (ss_cons (s_asg (pd_callB (cMaxA O) T.n_max PyProof.Rows.boot_max (pa_cons (pd_lc false (own := [(("one" : Str), 10)]) O (i_seq O (pd_var 7)) (blkOk_by (N := ["script", "dice", "date", "other", "year", "week", "weekday", "ends", "day", "last", "one", "days", "wanted", "place", "same", "due", "number", "behind", "ahead", "k", "rows", "flat", "row", "some", "far", "end", "alike"]) (sc := defScope s_law) (by decide +kernel)) (fun _ _ _ _ _ => g_name 10 (O.blk _ _ _ _ _)) (fun _ _ _ _ _ => ts_one (pt_cmp (oEq (O.blk _ _ _ _ _)) (pd_ix (O.blk _ _ _ _ _) (pd_var 10) (pd_int)) (pd_ix (O.blk _ _ _ _ _) (pd_var 2) (pd_int)))) (fun _ _ _ _ _ => pd_ix (O.blk _ _ _ _ _) (pd_var 10) (pd_int))) (pa_nil))) (g_name 9 O)) (ss_cons (s_if (pt_cmp (oNe O) (pd_call O F_weeks_in_year (by decide) (pa_cons (pd_ix O (pd_var 2) (pd_int)) (pa_nil)) (len_cons_ (fun _ _ _ _ h => len_nil_ h))) (pd_var 9)) (ss_one (s_ret (pd_bl))) (ss_nil)) (ss_cons (s_asg (pd_lc false (own := [(("day" : Str), 8)]) O (i_range2 T.n_range (pd_int) (pd_bin (oAdd O) (pd_call O F_days_in_month (by decide) (pa_cons (pd_ix O (pd_var 2) (pd_int)) (pa_cons (pd_ix O (pd_var 2) (pd_int)) (pa_nil))) (len_cons_ (len_cons_ (fun _ _ _ _ h => len_nil_ h)))) (pd_int))) (blkOk_by (N := ["script", "dice", "date", "other", "year", "week", "weekday", "ends", "day", "last", "one", "days", "wanted", "place", "same", "due", "number", "behind", "ahead", "k", "rows", "flat", "row", "some", "far", "end", "alike"]) (sc := defScope s_law) (by decide +kernel)) (fun _ _ _ _ _ => g_name 8 (O.blk _ _ _ _ _)) (fun _ _ _ _ _ => ts_nil) (fun _ _ _ _ _ => pd_tup (pa_cons (pd_ix (O.blk _ _ _ _ _) (pd_var 2) (pd_int)) (pa_cons (pd_ix (O.blk _ _ _ _ _) (pd_var 2) (pd_int)) (pa_cons (pd_var 8) (pa_nil)))))) (g_name 11 O)) (ss_cons (s_asg (pd_tup (pa_cons (pd_call O F__law_roll (by decide) (pa_cons (pd_var 1) (pa_cons (pd_int) (pa_nil))) (len_cons_ (len_cons_ (fun _ _ _ _ h => len_nil_ h)))) (pa_cons (pd_bin oSub (pd_call O F__law_roll (by decide) (pa_cons (pd_var 1) (pa_cons (pd_int) (pa_nil))) (len_cons_ (len_cons_ (fun _ _ _ _ h => len_nil_ h)))) (pd_int)) (pa_nil)))) (g_tup O (gs_cons (g_name 12 O) (gs_cons (g_name 13 O) (gs_nil))))) (ss_cons (s_lc (i := 14) false (own := [(("day" : Str), 8)]) O (i_seq O (pd_var 11)) (blkOk_by (N := ["script", "dice", "date", "other", "year", "week", "weekday", "ends", "day", "last", "one", "days", "wanted", "place", "same", "due", "number", "behind", "ahead", "k", "rows", "flat", "row", "some", "far", "end", "alike"]) (sc := defScope s_law) (by decide +kernel)) (fun _ _ _ _ _ => g_name 8 (O.blk _ _ _ _ _)) (fun _ _ _ _ _ => ts_one (pt_cmp (oEq (O.blk _ _ _ _ _)) (pd_bin oMod (pd_bin (oAdd (O.blk _ _ _ _ _)) (pd_call (O.blk _ _ _ _ _) F_day_number (by decide) (pa_cons (pd_var 8) (pa_nil)) (len_cons_ (fun _ _ _ _ h => len_nil_ h))) (pd_int)) (pd_int)) (pd_var 12))) (fun _ _ _ _ _ => pd_var 8) (sw_true rfl rfl rfl (by decide +kernel))) (ss_cons (s_asg (pd_if (pt_w (pw_or (pt_cmp (oEq O) (pd_var 13) (pd_int)) (pw_or1 (pt_cmp oGt (pd_callB (cMax2 O) T.n_max PyProof.Rows.boot_max (pa_cons (pd_var 13) (pa_cons (pd_neg (pd_var 13)) (pa_nil)))) (pd_callB (cLen O) T.n_len PySem.boot_len (pa_cons (pd_var 14) (pa_nil))))))) (pd_str) (pd_if (pt_cmp oGt (pd_var 13) (pd_int)) (pd_ix O (pd_var 14) (pd_bin oSub (pd_var 13) (pd_int))) (pd_ix O (pd_var 14) (pd_var 13)))) (g_name 15 O)) (ss_cons (s_if (pt_cmp (oNe O) (pd_told (tb := ["WeekError"]) (j := 13) O M T.told T.e_WeekError T.c_told (by decide) (fun A outer s H E f c O => pd_call O F_nth_weekday (by decide) (pa_cons (pd_ix O (pd_var 2) (pd_int)) (pa_cons (pd_ix O (pd_var 2) (pd_int)) (pa_cons (pd_var 13) (pa_cons (pd_var 12) (pa_nil))))) (len_cons_ (len_cons_ (len_cons_ (len_cons_ (fun _ _ _ _ h => len_nil_ h))))))) (pd_var 15)) (ss_one (s_ret (pd_bl))) (ss_nil)) (ss_cons (s_asg (pd_call O F_day_number (by decide) (pa_cons (pd_var 2) (pa_nil)) (len_cons_ (fun _ _ _ _ h => len_nil_ h))) (g_name 16 O)) (ss_cons (s_par (i := 17) (j := 18) O (pa_cons (pd_ix O (pd_lc false (own := [(("k" : Str), 19)]) O (i_range2 T.n_range (pd_var 16) (pd_bin (oAdd O) (pd_var 16) (pd_int))) (blkOk_by (N := ["script", "dice", "date", "other", "year", "week", "weekday", "ends", "day", "last", "one", "days", "wanted", "place", "same", "due", "number", "behind", "ahead", "k", "rows", "flat", "row", "some", "far", "end", "alike"]) (sc := defScope s_law) (by decide +kernel)) (fun _ _ _ _ _ => g_name 19 (O.blk _ _ _ _ _)) (fun _ _ _ _ _ => ts_one (pt_cmp (oEq (O.blk _ _ _ _ _)) (pd_bin oMod (pd_bin (oAdd (O.blk _ _ _ _ _)) (pd_var 19) (pd_int)) (pd_int)) (pd_var 12))) (fun _ _ _ _ _ => pd_var 19)) (pd_int)) (pa_cons (pd_ix O (pd_lc false (own := [(("k" : Str), 19)]) O (i_range2 T.n_range (pd_bin oSub (pd_var 16) (pd_int)) (pd_bin (oAdd O) (pd_var 16) (pd_int))) (blkOk_by (N := ["script", "dice", "date", "other", "year", "week", "weekday", "ends", "day", "last", "one", "days", "wanted", "place", "same", "due", "number", "behind", "ahead", "k", "rows", "flat", "row", "some", "far", "end", "alike"]) (sc := defScope s_law) (by decide +kernel)) (fun _ _ _ _ _ => g_name 19 (O.blk _ _ _ _ _)) (fun _ _ _ _ _ => ts_one (pt_cmp (oEq (O.blk _ _ _ _ _)) (pd_bin oMod (pd_bin (oAdd (O.blk _ _ _ _ _)) (pd_var 19) (pd_int)) (pd_int)) (pd_var 12))) (fun _ _ _ _ _ => pd_var 19)) (pd_int)) (pa_nil)))) (ss_cons (s_if (pt_w (pw_or (pt_cmp (oNe O) (pd_call O F_on_or_behind (by decide) (pa_cons (pd_var 2) (pa_cons (pd_var 12) (pa_nil))) (len_cons_ (len_cons_ (fun _ _ _ _ h => len_nil_ h)))) (pd_call O F_date_of (by decide) (pa_cons (pd_var 17) (pa_nil)) (len_cons_ (fun _ _ _ _ h => len_nil_ h)))) (pw_or1 (pt_cmp (oNe O) (pd_call O F_on_or_ahead (by decide) (pa_cons (pd_var 2) (pa_cons (pd_var 12) (pa_nil))) (len_cons_ (len_cons_ (fun _ _ _ _ h => len_nil_ h)))) (pd_call O F_date_of (by decide) (pa_cons (pd_var 18) (pa_nil)) (len_cons_ (fun _ _ _ _ h => len_nil_ h))))))) (ss_one (s_ret (pd_bl))) (ss_nil)) (ss_cons (s_asg (pd_call O F_month_rows (by decide) (pa_cons (pd_ix O (pd_var 2) (pd_int)) (pa_cons (pd_ix O (pd_var 2) (pd_int)) (pa_cons (pd_var 12) (pa_nil)))) (len_cons_ (len_cons_ (len_cons_ (fun _ _ _ _ h => len_nil_ h))))) (g_name 20 O)) (ss_cons (s_asg (pd_lst false (pa_nil)) (g_name 21 O)) (ss_cons (s_for O (i_seq O (pd_var 20)) (g_name 22 O) (ss_one (s_asg (pd_bin (oAdd O) (pd_var 21) (pd_callT (cList O) T.n_list PyProof.Rows.boot_list (pa_cons (pd_var 22) (pa_nil)))) (g_name 21 O)))) (ss_cons (s_if (pt_w (pw_or (pt_cmp (oNe O) (pd_lc false (own := [(("day" : Str), 8)]) O (i_seq O (pd_var 21)) (blkOk_by (N := ["script", "dice", "date", "other", "year", "week", "weekday", "ends", "day", "last", "one", "days", "wanted", "place", "same", "due", "number", "behind", "ahead", "k", "rows", "flat", "row", "some", "far", "end", "alike"]) (sc := defScope s_law) (by decide +kernel)) (fun _ _ _ _ _ => g_name 8 (O.blk _ _ _ _ _)) (fun _ _ _ _ _ => ts_one (pt_cmp oGt (pd_var 8) (pd_int))) (fun _ _ _ _ _ => pd_var 8)) (pd_listR2 (lf := false) O T.n_range T.n_list (pd_int) (pd_bin (oAdd O) (pd_callB (cLen O) T.n_len PySem.boot_len (pa_cons (pd_var 11) (pa_nil))) (pd_int)))) (pw_or (pt_cmp (oNe O) (pd_bin oMod (pd_callB (cLen O) T.n_len PySem.boot_len (pa_cons (pd_var 21) (pa_nil))) (pd_int)) (pd_int)) (pw_or1 (pt_cmp oGt (pd_callB (cLen O) T.n_len PySem.boot_len (pa_cons (pd_var 21) (pa_nil))) (pd_int)))))) (ss_one (s_ret (pd_bl))) (ss_nil)) (ss_cons (s_if (pt_cmp (oNe O) (pd_lc false (own := [(("row" : Str), 22)]) O (i_seq O (pd_var 20)) (blkOk_by (N := ["script", "dice", "date", "other", "year", "week", "weekday", "ends", "day", "last", "one", "days", "wanted", "place", "same", "due", "number", "behind", "ahead", "k", "rows", "flat", "row", "some", "far", "end", "alike"]) (sc := defScope s_law) (by decide +kernel)) (fun _ _ _ _ _ => g_name 22 (O.blk _ _ _ _ _)) (fun _ _ _ _ _ => ts_one (pt_cmp (oEq (O.blk _ _ _ _ _)) (pd_callB (cMaxA (O.blk _ _ _ _ _)) T.n_max PyProof.Rows.boot_max (pa_cons (pd_var 22) (pa_nil))) (pd_int))) (fun _ _ _ _ _ => pd_int)) (pd_lst false (pa_nil))) (ss_one (s_ret (pd_bl))) (ss_nil)) (ss_cons (s_if (pt_cmp (oNe O) (pd_lc false (own := [(("k" : Str), 19), (("day" : Str), 8)]) O (i_enum O T.n_enumerate (pd_var 21)) (blkOk_by (N := ["script", "dice", "date", "other", "year", "week", "weekday", "ends", "day", "last", "one", "days", "wanted", "place", "same", "due", "number", "behind", "ahead", "k", "rows", "flat", "row", "some", "far", "end", "alike"]) (sc := defScope s_law) (by decide +kernel)) (fun _ _ _ _ _ => g_tup (O.blk _ _ _ _ _) (gs_cons (g_name 19 (O.blk _ _ _ _ _)) (gs_cons (g_name 8 (O.blk _ _ _ _ _)) (gs_nil)))) (fun _ _ _ _ _ => ts_one (pt_cmp oGt (pd_var 8) (pd_int))) (fun _ _ _ _ _ => pd_bin oMod (pd_bin oSub (pd_bin oSub (pd_call (O.blk _ _ _ _ _) F_day_number (by decide) (pa_cons (pd_ix (O.blk _ _ _ _ _) (pd_var 11) (pd_bin oSub (pd_var 8) (pd_int))) (pa_nil)) (len_cons_ (fun _ _ _ _ h => len_nil_ h))) (pd_var 19)) (pd_int)) (pd_int))) (pd_bin oMul (pd_lst false (pa_cons (pd_var 12) (pa_nil))) (pd_callB (cLen O) T.n_len PySem.boot_len (pa_cons (pd_var 11) (pa_nil))))) (ss_one (s_ret (pd_bl))) (ss_nil)) (ss_cons (s_if (pt_cmp (oIn O) (pd_int) (pd_slice false O (pd_var 21) (po_some (pd_index O (pd_var 21) (pd_int))) (po_some (pd_index O (pd_var 21) (pd_callB (cLen O) T.n_len PySem.boot_len (pa_cons (pd_var 11) (pa_nil))))))) (ss_one (s_ret (pd_bl))) (ss_nil)) (ss_cons (s_asg (pd_tup (pa_cons (pd_lc false (own := [(("k" : Str), 19)]) O (i_range1 T.n_range (pd_call O F__law_roll (by decide) (pa_cons (pd_var 1) (pa_cons (pd_int) (pa_nil))) (len_cons_ (len_cons_ (fun _ _ _ _ h => len_nil_ h))))) (blkOk_by (N := ["script", "dice", "date", "other", "year", "week", "weekday", "ends", "day", "last", "one", "days", "wanted", "place", "same", "due", "number", "behind", "ahead", "k", "rows", "flat", "row", "some", "far", "end", "alike"]) (sc := defScope s_law) (by decide +kernel)) (fun _ _ _ _ _ => g_name 19 (O.blk _ _ _ _ _)) (fun _ _ _ _ _ => ts_nil) (fun _ _ _ _ _ => pd_call (O.blk _ _ _ _ _) F__law_roll (by decide) (pa_cons (pd_var 1) (pa_cons (pd_int) (pa_nil))) (len_cons_ (len_cons_ (fun _ _ _ _ h => len_nil_ h))))) (pa_cons (pd_bin oSub (pd_call O F__law_roll (by decide) (pa_cons (pd_var 1) (pa_cons (pd_int) (pa_nil))) (len_cons_ (len_cons_ (fun _ _ _ _ h => len_nil_ h)))) (pd_int)) (pa_nil)))) (g_tup O (gs_cons (g_name 23 O) (gs_cons (g_name 24 O) (gs_nil))))) (ss_cons (s_asg (pd_call O F_date_of (by decide) (pa_cons (pd_bin (oAdd O) (pd_var 16) (pd_var 24)) (pa_nil)) (len_cons_ (fun _ _ _ _ h => len_nil_ h))) (g_name 25 O)) (ss_cons (s_if (pt_cmp (oNe O) (pd_call O F_count_weekdays (by decide) (pa_cons (pd_var 2) (pa_cons (pd_var 25) (pa_cons (pd_var 23) (pa_nil)))) (len_cons_ (len_cons_ (len_cons_ (fun _ _ _ _ h => len_nil_ h))))) (pd_callB (cLen O) T.n_len PySem.boot_len (pa_cons (pd_lc false (own := [(("k" : Str), 19)]) O (i_range2 T.n_range (pd_var 16) (pd_bin (oAdd O) (pd_bin (oAdd O) (pd_var 16) (pd_var 24)) (pd_int))) (blkOk_by (N := ["script", "dice", "date", "other", "year", "week", "weekday", "ends", "day", "last", "one", "days", "wanted", "place", "same", "due", "number", "behind", "ahead", "k", "rows", "flat", "row", "some", "far", "end", "alike"]) (sc := defScope s_law) (by decide +kernel)) (fun _ _ _ _ _ => g_name 19 (O.blk _ _ _ _ _)) (fun _ _ _ _ _ => ts_one (pt_cmp (oIn (O.blk _ _ _ _ _)) (pd_bin oMod (pd_bin (oAdd (O.blk _ _ _ _ _)) (pd_var 19) (pd_int)) (pd_int)) (pd_var 23))) (fun _ _ _ _ _ => pd_var 19)) (pa_nil)))) (ss_one (s_ret (pd_bl))) (ss_nil)) (ss_cons (s_lc (i := 26) false (own := [(("one" : Str), 10)]) O (i_seq O (pd_lst false (pa_cons (pd_ix O (pd_var 2) (pd_int)) (pa_cons (pd_ix O (pd_var 3) (pd_int)) (pa_nil))))) (blkOk_by (N := ["script", "dice", "date", "other", "year", "week", "weekday", "ends", "day", "last", "one", "days", "wanted", "place", "same", "due", "number", "behind", "ahead", "k", "rows", "flat", "row", "some", "far", "end", "alike"]) (sc := defScope s_law) (by decide +kernel)) (fun _ _ _ _ _ => g_name 10 (O.blk _ _ _ _ _)) (fun _ _ _ _ _ => ts_nil) (fun _ _ _ _ _ => pd_bin oMod (pd_call (O.blk _ _ _ _ _) F_day_number (by decide) (pa_cons (pd_tup (pa_cons (pd_var 10) (pa_cons (pd_int) (pa_cons (pd_int) (pa_nil))))) (pa_nil)) (len_cons_ (fun _ _ _ _ h => len_nil_ h))) (pd_int)) (sw_true rfl rfl rfl (by decide +kernel))) (ss_cons (s_if (pt_cmp (oNe O) (pd_call O F_same_calendar (by decide) (pa_cons (pd_ix O (pd_var 2) (pd_int)) (pa_cons (pd_ix O (pd_var 3) (pd_int)) (pa_nil))) (len_cons_ (len_cons_ (fun _ _ _ _ h => len_nil_ h)))) (pd_and (pd_cmp (oEq O) (pd_ix O (pd_var 26) (pd_int)) (pd_ix O (pd_var 26) (pd_int))) (pd_one (pd_cmp (oEq O) (pd_call O F_days_in_month (by decide) (pa_cons (pd_ix O (pd_var 2) (pd_int)) (pa_cons (pd_int) (pa_nil))) (len_cons_ (len_cons_ (fun _ _ _ _ h => len_nil_ h)))) (pd_call O F_days_in_month (by decide) (pa_cons (pd_ix O (pd_var 3) (pd_int)) (pa_cons (pd_int) (pa_nil))) (len_cons_ (len_cons_ (fun _ _ _ _ h => len_nil_ h)))))))) (ss_one (s_ret (pd_bl))) (ss_nil)) (ss_one (s_if (pt_cmp (oNe O) (pd_call O F_weeks_from (by decide) (pa_cons (pd_var 2) (pa_cons (pd_var 3) (pa_nil))) (len_cons_ (len_cons_ (fun _ _ _ _ h => len_nil_ h)))) (pd_bin oFdiv (pd_bin (oAdd O) (pd_bin oSub (pd_bin oSub (pd_call O F_day_number (by decide) (pa_cons (pd_var 3) (pa_nil)) (len_cons_ (fun _ _ _ _ h => len_nil_ h))) (pd_bin oMod (pd_bin (oAdd O) (pd_call O F_day_number (by decide) (pa_cons (pd_var 3) (pa_nil)) (len_cons_ (fun _ _ _ _ h => len_nil_ h))) (pd_int)) (pd_int))) (pd_var 16)) (pd_var 6)) (pd_int))) (ss_one (s_ret (pd_bl))) (ss_nil))))))))))))))))))))))))))))))) (ss_one (s_ret (pd_call0 O F__law_plain (by decide))))
end
end K02

namespace K02
open PySem G
def leapB (y : Int) : Bool := decide (y % 4 = 0) && (decide (y % 100 ≠ 0) || decide (y % 400 = 0))
theorem fm (i : Int) {j : Int} (h : 0 ≤ j := by decide) : i.fmod j = i % j := Int.fmod_eq_emod_of_nonneg i h
theorem fd (i : Int) {j : Int} (h : 0 ≤ j := by decide) : i.fdiv j = i / j := Int.fdiv_eq_ediv_of_nonneg i h
theorem fm4 (i : Int) : i.fmod 4 = i % 4 := fm i
theorem fm100 (i : Int) : i.fmod 100 = i % 100 := fm i
theorem fm400 (i : Int) : i.fmod 400 = i % 400 := fm i
theorem beqi (i j : Int) : (i == j) = decide (i = j) := by
  by_cases h : i = j <;> simp [h]
theorem v_is_leap (y : Int) (st : Store) : f_is_leap [.int y] st = if 1 ≤ y ∧ y ≤ 9999 then .ok (.bl (leapB y)) st else .ex "DayError" st := by
  unfold f_is_leap b_is_leap runB leapB
  by_cases h1 : 1 ≤ y <;> by_cases h2 : y ≤ 9999 <;> by_cases h3 : y % 4 = 0 <;> by_cases h4 : y % 100 = 0 <;> simp [aLeT, dSeq, dIfS, dNot, dB, dChain, dC, dVar, dRet, dRetN, dNext, dAndV, dOrV, dNotV, dAnd, dOr, dIf, dTru, truD, dBin, dCons, dNil, dTup, dLst, mkL, dCall, dAsg, dAug, dPar, dgName, dgTup, dgCons, dgNil, dDrop, R.bind, R.s, R.b, aLe, aLt, aGt, aGe, aSub, aAdd, aMul, aFdiv, aMod, aEq, aNe, aIsN, aNotN, D.isNon, aAddI, aIx, L2.atI, L2.ixN, beqi, seqA, seqL, seqR, okEq, norm, D.isSc, D.isStr, D.dat, D.dats, D.dep, D.deps, D.eqv, D.eqvs, dRaise, dNeg, bSum, bAbs, bInt, bMax2, bMin2, bLen, intsD, dSl, aSl, dP, dNoP, okMul, fm, fd, c_MOST_YEAR, h1, h2, h3, h4, fm4, fm100, fm400]
  done
theorem v_days_in_month (y m : Int) (st : Store) : f_days_in_month [.int y, .int m] st = if (1 ≤ y ∧ y ≤ 9999) ∧ 1 ≤ m ∧ m ≤ 12 then .ok (.int ([31, 28, 31, 30, 31, 30, 31, 31, 30, 31, 30, 31].getD (m - 1).toNat 0 + if m = 2 ∧ leapB y = true then 1 else 0)) st else .ex "DayError" st := by
  unfold f_days_in_month b_days_in_month runB
  by_cases h : 1 ≤ y ∧ y ≤ 9999
  · have e := v_is_leap y st
    rw [if_pos h] at e
    by_cases h1 : 1 ≤ m
    · by_cases h2 : m ≤ 12
      · have hm : m = 1 ∨ m = 2 ∨ m = 3 ∨ m = 4 ∨ m = 5 ∨ m = 6 ∨ m = 7 ∨ m = 8 ∨ m = 9 ∨ m = 10 ∨ m = 11 ∨ m = 12 := by omega
        rcases hm with rfl | rfl | rfl | rfl | rfl | rfl | rfl | rfl | rfl | rfl | rfl | rfl <;> cases hl : leapB y <;> simp [aLeT, dSeq, dIfS, dNot, dB, dChain, dC, dVar, dRet, dRetN, dNext, dAndV, dOrV, dNotV, dAnd, dOr, dIf, dTru, truD, dBin, dCons, dNil, dTup, dLst, mkL, dCall, dAsg, dAug, dPar, dgName, dgTup, dgCons, dgNil, dDrop, R.bind, R.s, R.b, aLe, aLt, aGt, aGe, aSub, aAdd, aMul, aFdiv, aMod, aEq, aNe, aIsN, aNotN, D.isNon, aAddI, aIx, L2.atI, L2.ixN, beqi, seqA, seqL, seqR, okEq, norm, D.isSc, D.isStr, D.dat, D.dats, D.dep, D.deps, D.eqv, D.eqvs, dRaise, dNeg, bSum, bAbs, bInt, bMax2, bMin2, bLen, intsD, dSl, aSl, dP, dNoP, okMul, fm, fd, e, h, hl, c_MONTH_LENGTHS]
      · simp [aLeT, dSeq, dIfS, dNot, dB, dChain, dC, dVar, dRet, dRetN, dNext, dAndV, dOrV, dNotV, dAnd, dOr, dIf, dTru, truD, dBin, dCons, dNil, dTup, dLst, mkL, dCall, dAsg, dAug, dPar, dgName, dgTup, dgCons, dgNil, dDrop, R.bind, R.s, R.b, aLe, aLt, aGt, aGe, aSub, aAdd, aMul, aFdiv, aMod, aEq, aNe, aIsN, aNotN, D.isNon, aAddI, aIx, L2.atI, L2.ixN, beqi, seqA, seqL, seqR, okEq, norm, D.isSc, D.isStr, D.dat, D.dats, D.dep, D.deps, D.eqv, D.eqvs, dRaise, dNeg, bSum, bAbs, bInt, bMax2, bMin2, bLen, intsD, dSl, aSl, dP, dNoP, okMul, fm, fd, e, h, h1, h2]
    · simp [aLeT, dSeq, dIfS, dNot, dB, dChain, dC, dVar, dRet, dRetN, dNext, dAndV, dOrV, dNotV, dAnd, dOr, dIf, dTru, truD, dBin, dCons, dNil, dTup, dLst, mkL, dCall, dAsg, dAug, dPar, dgName, dgTup, dgCons, dgNil, dDrop, R.bind, R.s, R.b, aLe, aLt, aGt, aGe, aSub, aAdd, aMul, aFdiv, aMod, aEq, aNe, aIsN, aNotN, D.isNon, aAddI, aIx, L2.atI, L2.ixN, beqi, seqA, seqL, seqR, okEq, norm, D.isSc, D.isStr, D.dat, D.dats, D.dep, D.deps, D.eqv, D.eqvs, dRaise, dNeg, bSum, bAbs, bInt, bMax2, bMin2, bLen, intsD, dSl, aSl, dP, dNoP, okMul, fm, fd, e, h, h1]
  · have e := v_is_leap y st
    rw [if_neg h] at e
    simp [aLeT, dSeq, dIfS, dNot, dB, dChain, dC, dVar, dRet, dRetN, dNext, dAndV, dOrV, dNotV, dAnd, dOr, dIf, dTru, truD, dBin, dCons, dNil, dTup, dLst, mkL, dCall, dAsg, dAug, dPar, dgName, dgTup, dgCons, dgNil, dDrop, R.bind, R.s, R.b, aLe, aLt, aGt, aGe, aSub, aAdd, aMul, aFdiv, aMod, aEq, aNe, aIsN, aNotN, D.isNon, aAddI, aIx, L2.atI, L2.ixN, beqi, seqA, seqL, seqR, okEq, norm, D.isSc, D.isStr, D.dat, D.dats, D.dep, D.deps, D.eqv, D.eqvs, dRaise, dNeg, bSum, bAbs, bInt, bMax2, bMin2, bLen, intsD, dSl, aSl, dP, dNoP, okMul, fm, fd, e, h]
def LT : List Int := [31, 28, 31, 30, 31, 30, 31, 31, 30, 31, 30, 31]
def dim (y m : Int) : Int := LT.getD (m - 1).toNat 0 + if m = 2 ∧ leapB y = true then 1 else 0
def YM (y m : Int) : Prop := (1 ≤ y ∧ y ≤ 9999) ∧ 1 ≤ m ∧ m ≤ 12
def Val (y m d : Int) : Prop := YM y m ∧ 1 ≤ d ∧ d ≤ dim y m
instance (y m : Int) : Decidable (YM y m) := by unfold YM; infer_instance
instance (y m d : Int) : Decidable (Val y m d) := by unfold Val; infer_instance
theorem e_dim (y m : Int) (st : Store) : f_days_in_month [.int y, .int m] st = if YM y m then .ok (.int (dim y m)) st else .ex "DayError" st := v_days_in_month y m st
theorem e_check (y m d : Int) (st : Store) : f_check_date [.tup [.int y, .int m, .int d]] st = if Val y m d then .ok .non st else .ex "DayError" st := by
  unfold f_check_date b_check_date runB Val
  by_cases h1 : 1 ≤ d
  · by_cases h : YM y m
    · by_cases h2 : d ≤ dim y m <;> simp [aLeT, dSeq, dIfS, dNot, dB, dChain, dC, dVar, dRet, dRetN, dNext, dAndV, dOrV, dNotV, dAnd, dOr, dIf, dTru, truD, dBin, dCons, dNil, dTup, dLst, mkL, dCall, dAsg, dAug, dPar, dgName, dgTup, dgCons, dgNil, dDrop, R.bind, R.s, R.b, aLe, aLt, aGt, aGe, aSub, aAdd, aMul, aFdiv, aMod, aEq, aNe, aIsN, aNotN, D.isNon, aAddI, aIx, L2.atI, L2.ixN, beqi, seqA, seqL, seqR, okEq, norm, D.isSc, D.isStr, D.dat, D.dats, D.dep, D.deps, D.eqv, D.eqvs, dRaise, dNeg, bSum, bAbs, bInt, bMax2, bMin2, bLen, intsD, dSl, aSl, dP, dNoP, okMul, fm, fd, e_dim, h, h1, h2]
    · simp [aLeT, dSeq, dIfS, dNot, dB, dChain, dC, dVar, dRet, dRetN, dNext, dAndV, dOrV, dNotV, dAnd, dOr, dIf, dTru, truD, dBin, dCons, dNil, dTup, dLst, mkL, dCall, dAsg, dAug, dPar, dgName, dgTup, dgCons, dgNil, dDrop, R.bind, R.s, R.b, aLe, aLt, aGt, aGe, aSub, aAdd, aMul, aFdiv, aMod, aEq, aNe, aIsN, aNotN, D.isNon, aAddI, aIx, L2.atI, L2.ixN, beqi, seqA, seqL, seqR, okEq, norm, D.isSc, D.isStr, D.dat, D.dats, D.dep, D.deps, D.eqv, D.eqvs, dRaise, dNeg, bSum, bAbs, bInt, bMax2, bMin2, bLen, intsD, dSl, aSl, dP, dNoP, okMul, fm, fd, e_dim, h, h1]
  · simp [aLeT, dSeq, dIfS, dNot, dB, dChain, dC, dVar, dRet, dRetN, dNext, dAndV, dOrV, dNotV, dAnd, dOr, dIf, dTru, truD, dBin, dCons, dNil, dTup, dLst, mkL, dCall, dAsg, dAug, dPar, dgName, dgTup, dgCons, dgNil, dDrop, R.bind, R.s, R.b, aLe, aLt, aGt, aGe, aSub, aAdd, aMul, aFdiv, aMod, aEq, aNe, aIsN, aNotN, D.isNon, aAddI, aIx, L2.atI, L2.ixN, beqi, seqA, seqL, seqR, okEq, norm, D.isSc, D.isStr, D.dat, D.dats, D.dep, D.deps, D.eqv, D.eqvs, dRaise, dNeg, bSum, bAbs, bInt, bMax2, bMin2, bLen, intsD, dSl, aSl, dP, dNoP, okMul, fm, fd, h1]
def dby (y : Int) : Int := 365 * (y - 1) + (y - 1) / 4 - (y - 1) / 100 + (y - 1) / 400
theorem fd4 (i : Int) : i.fdiv 4 = i / 4 := fd i
theorem fd100 (i : Int) : i.fdiv 100 = i / 100 := fd i
theorem fd400 (i : Int) : i.fdiv 400 = i / 400 := fd i
theorem e_dby (y : Int) (st : Store) : f_days_before_year [.int y] st = .ok (.int (dby y)) st := by
  unfold f_days_before_year b_days_before_year runB dby
  simp [aLeT, dSeq, dIfS, dNot, dB, dChain, dC, dVar, dRet, dRetN, dNext, dAndV, dOrV, dNotV, dAnd, dOr, dIf, dTru, truD, dBin, dCons, dNil, dTup, dLst, mkL, dCall, dAsg, dAug, dPar, dgName, dgTup, dgCons, dgNil, dDrop, R.bind, R.s, R.b, aLe, aLt, aGt, aGe, aSub, aAdd, aMul, aFdiv, aMod, aEq, aNe, aIsN, aNotN, D.isNon, aAddI, aIx, L2.atI, L2.ixN, beqi, seqA, seqL, seqR, okEq, norm, D.isSc, D.isStr, D.dat, D.dats, D.dep, D.deps, D.eqv, D.eqvs, dRaise, dNeg, bSum, bAbs, bInt, bMax2, bMin2, bLen, intsD, dSl, aSl, dP, dNoP, okMul, fm, fd, fd4, fd100, fd400]
/-- days of a year ahead of month m -/
def cum (y m : Int) : Int := [0, 31, 59, 90, 120, 151, 181, 212, 243, 273, 304, 334, 365].getD (m - 1).toNat 0 + if 2 < m ∧ leapB y = true then 1 else 0
def num (y m d : Int) : Int := dby y + cum y m + d
theorem m12 {m : Int} (h1 : 1 ≤ m) (h2 : m ≤ 12) : m = 1 ∨ m = 2 ∨ m = 3 ∨ m = 4 ∨ m = 5 ∨ m = 6 ∨ m = 7 ∨ m = 8 ∨ m = 9 ∨ m = 10 ∨ m = 11 ∨ m = 12 := by omega
theorem cum_next {y m : Int} (h1 : 1 ≤ m) (h2 : m ≤ 12) : cum y (m + 1) = cum y m + dim y m := by
  rcases m12 h1 h2 with rfl | rfl | rfl | rfl | rfl | rfl | rfl | rfl | rfl | rfl | rfl | rfl <;> cases hl : leapB y <;> simp [cum, dim, LT, hl]
theorem dim_pos {y m : Int} (h1 : 1 ≤ m) (h2 : m ≤ 12) : 28 ≤ dim y m ∧ dim y m ≤ 31 := by
  rcases m12 h1 h2 with rfl | rfl | rfl | rfl | rfl | rfl | rfl | rfl | rfl | rfl | rfl | rfl <;> cases hl : leapB y <;> simp [dim, LT, hl]
theorem e_num (y m d : Int) (st : Store) : f_day_number [.tup [.int y, .int m, .int d]] st = if Val y m d then .ok (.int (num y m d)) st else .ex "DayError" st := by
  unfold f_day_number b_day_number runB
  by_cases h : Val y m d
  · have hy := h.1.1
    rcases m12 h.1.2.1 h.1.2.2 with rfl | rfl | rfl | rfl | rfl | rfl | rfl | rfl | rfl | rfl | rfl | rfl <;> cases hl : leapB y <;> simp [aLeT, dSeq, dIfS, dNot, dB, dChain, dC, dVar, dRet, dRetN, dNext, dAndV, dOrV, dNotV, dAnd, dOr, dIf, dTru, truD, dBin, dCons, dNil, dTup, dLst, mkL, dCall, dAsg, dAug, dPar, dgName, dgTup, dgCons, dgNil, dDrop, R.bind, R.s, R.b, aLe, aLt, aGt, aGe, aSub, aAdd, aMul, aFdiv, aMod, aEq, aNe, aIsN, aNotN, D.isNon, aAddI, aIx, L2.atI, L2.ixN, beqi, seqA, seqL, seqR, okEq, norm, D.isSc, D.isStr, D.dat, D.dats, D.dep, D.deps, D.eqv, D.eqvs, dRaise, dNeg, bSum, bAbs, bInt, bMax2, bMin2, bLen, intsD, dSl, aSl, dP, dNoP, okMul, fm, fd, e_check, v_is_leap, e_dby, h, hy, hl, c_MONTH_LENGTHS, HT.sIx, cutD, num, cum]
  · simp [aLeT, dSeq, dIfS, dNot, dB, dChain, dC, dVar, dRet, dRetN, dNext, dAndV, dOrV, dNotV, dAnd, dOr, dIf, dTru, truD, dBin, dCons, dNil, dTup, dLst, mkL, dCall, dAsg, dAug, dPar, dgName, dgTup, dgCons, dgNil, dDrop, R.bind, R.s, R.b, aLe, aLt, aGt, aGe, aSub, aAdd, aMul, aFdiv, aMod, aEq, aNe, aIsN, aNotN, D.isNon, aAddI, aIx, L2.atI, L2.ixN, beqi, seqA, seqL, seqR, okEq, norm, D.isSc, D.isStr, D.dat, D.dats, D.dep, D.deps, D.eqv, D.eqvs, dRaise, dNeg, bSum, bAbs, bInt, bMax2, bMin2, bLen, intsD, dSl, aSl, dP, dNoP, okMul, fm, fd, e_check, h]

end K02

namespace K02
open PySem G
theorem while_inv {α : Type} {ft : DT} {fb : DS} {st : Store} (e : α → G.Env) (P : α → Prop) (m : α → Nat) (Q : α → Prop)
    (h : ∀ a, P a → (ft (e a) st = .ok false st ∧ Q a) ∨ (ft (e a) st = .ok true st ∧ ∃ b, fb (e a) st = .nx (e b) st ∧ P b ∧ m b < m a)) :
    ∀ (fuel : Nat) (a : α), P a → m a < fuel → ∃ b, whileD ft fb fuel (e a) st = .nx (e b) st ∧ Q b
  | 0, a, _, hm => absurd hm (Nat.not_lt_zero _)
  | fuel + 1, a, hp, hm => by
    rcases h a hp with ⟨h1, h2⟩ | ⟨h1, b, h2, h3, h4⟩
    · exact ⟨a, by simp [whileD, R.s, h1], h2⟩
    · obtain ⟨c, h5, h6⟩ := while_inv e P m Q h fuel b h3 (by omega)
      exact ⟨c, by simp [whileD, R.s, h1, h2, loopK, h5], h6⟩
theorem dwhile_inv {α : Type} {ft : DT} {fb : DS} {st : Store} {env : G.Env} (e : α → G.Env) (P : α → Prop) (m : α → Nat) (Q : α → Prop) (a : α) (he : env = e a) (hp : P a) (hm : m a < 100000000)
    (h : ∀ a, P a → (ft (e a) st = .ok false st ∧ Q a) ∨ (ft (e a) st = .ok true st ∧ ∃ b, fb (e a) st = .nx (e b) st ∧ P b ∧ m b < m a)) :
    ∃ b, dWhile ft fb env st = .nx (e b) st ∧ Q b := by
  subst he
  exact while_inv e P m Q h 100000000 a hp hm
theorem dby_next (y : Int) : dby (y + 1) = dby y + if leapB y = true then 366 else 365 := by
  unfold dby leapB
  by_cases h1 : y % 4 = 0 <;> by_cases h2 : y % 100 = 0 <;> by_cases h3 : y % 400 = 0 <;> simp [h1, h2, h3] <;> omega
theorem dby_mono {a b : Int} (h : a < b) : dby (a + 1) ≤ dby b := by
  unfold dby
  omega
theorem dby_one : dby 1 = 0 := by decide
theorem cum_mono {y k m : Int} (h1 : 1 ≤ k) (h2 : k < m) (h3 : m ≤ 13) : cum y (k + 1) ≤ cum y m := by
  have h4 : k ≤ 12 := by omega
  have hm : m = 2 ∨ m = 3 ∨ m = 4 ∨ m = 5 ∨ m = 6 ∨ m = 7 ∨ m = 8 ∨ m = 9 ∨ m = 10 ∨ m = 11 ∨ m = 12 ∨ m = 13 := by omega
  rcases m12 h1 h4 with rfl | rfl | rfl | rfl | rfl | rfl | rfl | rfl | rfl | rfl | rfl | rfl <;>
  rcases hm with rfl | rfl | rfl | rfl | rfl | rfl | rfl | rfl | rfl | rfl | rfl | rfl <;> first | omega | (cases hl : leapB y <;> simp [cum, hl])
theorem cum_13 (y : Int) : cum y 13 = if leapB y = true then 366 else 365 := by
  cases hl : leapB y <;> simp [cum, hl]
theorem cum_1 (y : Int) : cum y 1 = 0 := by
  cases hl : leapB y <;> simp [cum, hl]
theorem cum_nn {y m : Int} (h1 : 1 ≤ m) (h2 : m ≤ 12) : 0 ≤ cum y m := by
  rcases m12 h1 h2 with rfl | rfl | rfl | rfl | rfl | rfl | rfl | rfl | rfl | rfl | rfl | rfl <;> cases hl : leapB y <;> simp [cum, hl]
theorem num_in {y m d : Int} (h : Val y m d) : dby y < num y m d ∧ num y m d ≤ dby (y + 1) := by
  obtain ⟨⟨⟨h1, h2⟩, h3, h4⟩, h5, h6⟩ := h
  have a := cum_nn (y := y) h3 h4
  have b := cum_next (y := y) h3 h4
  have c := cum_13 y
  have e := dby_next y
  have f : cum y (m + 1) ≤ cum y 13 := by
    by_cases hm : m = 12
    · subst hm; exact Int.le_refl _
    · exact cum_mono (y := y) h3 (by omega) (by omega)
  unfold num
  omega
theorem num_bd {y m d : Int} (h : Val y m d) : 1 ≤ num y m d ∧ num y m d ≤ 3652059 := by
  have ⟨a, b⟩ := num_in h
  have ⟨⟨⟨h1, h2⟩, _⟩, _⟩ := h
  have c : dby (y + 1) ≤ dby 10000 := dby_mono (by omega)
  have e : dby 10000 = 3652059 := by decide
  have f : dby 1 ≤ dby y := by
    by_cases hy : y = 1
    · rw [hy]; omega
    · have := dby_mono (a := 0) (b := y) (by omega)
      simpa using this
  have g := dby_one
  omega
theorem e_cnum (n : Int) (st : Store) : f_check_number [.int n] st = if 1 ≤ n ∧ n ≤ 3652059 then .ok .non st else .ex "DayError" st := by
  unfold f_check_number b_check_number runB
  by_cases h1 : 1 ≤ n <;> by_cases h2 : n ≤ 3652059 <;> simp [aLeT, dSeq, dIfS, dNot, dB, dChain, dC, dVar, dRet, dRetN, dNext, dAndV, dOrV, dNotV, dAnd, dOr, dIf, dTru, truD, dBin, dCons, dNil, dTup, dLst, mkL, dCall, dAsg, dAug, dPar, dgName, dgTup, dgCons, dgNil, dDrop, R.bind, R.s, R.b, aLe, aLt, aGt, aGe, aSub, aAdd, aMul, aFdiv, aMod, aEq, aNe, aIsN, aNotN, D.isNon, aAddI, aIx, L2.atI, L2.ixN, beqi, seqA, seqL, seqR, okEq, norm, D.isSc, D.isStr, D.dat, D.dats, D.dep, D.deps, D.eqv, D.eqvs, dRaise, dNeg, bSum, bAbs, bInt, bMax2, bMin2, bLen, intsD, dSl, aSl, dP, dNoP, okMul, fm, fd, h1, h2]
theorem fd146 (i : Int) : i.fdiv 146097 = i / 146097 := fd i
theorem e_date_bad (n : Int) (st : Store) (h : ¬ (1 ≤ n ∧ n ≤ 3652059)) : f_date_of [.int n] st = .ex "DayError" st := by
  unfold f_date_of b_date_of runB
  simp [aLeT, dSeq, dIfS, dNot, dB, dChain, dC, dVar, dRet, dRetN, dNext, dAndV, dOrV, dNotV, dAnd, dOr, dIf, dTru, truD, dBin, dCons, dNil, dTup, dLst, mkL, dCall, dAsg, dAug, dPar, dgName, dgTup, dgCons, dgNil, dDrop, R.bind, R.s, R.b, aLe, aLt, aGt, aGe, aSub, aAdd, aMul, aFdiv, aMod, aEq, aNe, aIsN, aNotN, D.isNon, aAddI, aIx, L2.atI, L2.ixN, beqi, seqA, seqL, seqR, okEq, norm, D.isSc, D.isStr, D.dat, D.dats, D.dep, D.deps, D.eqv, D.eqvs, dRaise, dNeg, bSum, bAbs, bInt, bMax2, bMin2, bLen, intsD, dSl, aSl, dP, dNoP, okMul, fm, fd, e_cnum, h]
theorem max_1 (st : Store) (i : Int) : bMax2 [.int 1, .int i] st = .ok (.int (if i > 1 then i else 1)) st := by
  unfold bMax2
  rfl
theorem e_date_of {y m d : Int} (h : Val y m d) (st : Store) : f_date_of [.int (num y m d)] st = .ok (.tup [.int y, .int m, .int d]) st := by
  have hb := num_bd h
  have hi := num_in h
  have ⟨⟨hy, hm⟩, hd⟩ := h
  obtain ⟨n, hn⟩ : ∃ n, n = num y m d := ⟨_, rfl⟩
  rw [← hn] at hb hi ⊢
  have hl : n - dby y = cum y m + d := by rw [hn]; unfold num; omega
  have h0 : (n - 1) * 400 / 146097 ≤ y := by
    have := hi.2
    unfold dby at this
    omega
  obtain ⟨y0, q1, q2⟩ := dwhile_inv (ft := t_date_of_1) (fb := w_date_of_1) (st := st) (env := [some (.int n), some (.int (if (n - 1) * 400 / 146097 > 1 then (n - 1) * 400 / 146097 else 1)), none, none, none, none])
    (fun k : Int => [some (.int n), some (.int k), none, none, none, none]) (fun k => 1 ≤ k ∧ k ≤ y) (fun k => (y - k).toNat) (fun k => k = y) _ rfl ⟨by split <;> omega, by split <;> omega⟩ (by split <;> omega) (fun k hk => by
      by_cases e : k = y
      · left
        subst e
        refine ⟨?_, rfl⟩
        unfold t_date_of_1
        simp [aLeT, dSeq, dIfS, dNot, dB, dChain, dC, dVar, dRet, dRetN, dNext, dAndV, dOrV, dNotV, dAnd, dOr, dIf, dTru, truD, dBin, dCons, dNil, dTup, dLst, mkL, dCall, dAsg, dAug, dPar, dgName, dgTup, dgCons, dgNil, dDrop, R.bind, R.s, R.b, aLe, aLt, aGt, aGe, aSub, aAdd, aMul, aFdiv, aMod, aEq, aNe, aIsN, aNotN, D.isNon, aAddI, aIx, L2.atI, L2.ixN, beqi, seqA, seqL, seqR, okEq, norm, D.isSc, D.isStr, D.dat, D.dats, D.dep, D.deps, D.eqv, D.eqvs, dRaise, dNeg, bSum, bAbs, bInt, bMax2, bMin2, bLen, intsD, dSl, aSl, dP, dNoP, okMul, fm, fd, e_dby]
        omega
      · right
        have := dby_mono (a := k) (b := y) (by omega)
        refine ⟨?_, k + 1, ?_, ⟨by omega, by omega⟩, by omega⟩
        · unfold t_date_of_1
          simp [aLeT, dSeq, dIfS, dNot, dB, dChain, dC, dVar, dRet, dRetN, dNext, dAndV, dOrV, dNotV, dAnd, dOr, dIf, dTru, truD, dBin, dCons, dNil, dTup, dLst, mkL, dCall, dAsg, dAug, dPar, dgName, dgTup, dgCons, dgNil, dDrop, R.bind, R.s, R.b, aLe, aLt, aGt, aGe, aSub, aAdd, aMul, aFdiv, aMod, aEq, aNe, aIsN, aNotN, D.isNon, aAddI, aIx, L2.atI, L2.ixN, beqi, seqA, seqL, seqR, okEq, norm, D.isSc, D.isStr, D.dat, D.dats, D.dep, D.deps, D.eqv, D.eqvs, dRaise, dNeg, bSum, bAbs, bInt, bMax2, bMin2, bLen, intsD, dSl, aSl, dP, dNoP, okMul, fm, fd, e_dby]
          omega
        · unfold w_date_of_1
          simp [aLeT, dSeq, dIfS, dNot, dB, dChain, dC, dVar, dRet, dRetN, dNext, dAndV, dOrV, dNotV, dAnd, dOr, dIf, dTru, truD, dBin, dCons, dNil, dTup, dLst, mkL, dCall, dAsg, dAug, dPar, dgName, dgTup, dgCons, dgNil, dDrop, R.bind, R.s, R.b, aLe, aLt, aGt, aGe, aSub, aAdd, aMul, aFdiv, aMod, aEq, aNe, aIsN, aNotN, D.isNon, aAddI, aIx, L2.atI, L2.ixN, beqi, seqA, seqL, seqR, okEq, norm, D.isSc, D.isStr, D.dat, D.dats, D.dep, D.deps, D.eqv, D.eqvs, dRaise, dNeg, bSum, bAbs, bInt, bMax2, bMin2, bLen, intsD, dSl, aSl, dP, dNoP, okMul, fm, fd])
  subst q2
  have hyl := v_is_leap y0 st
  rw [if_pos hy] at hyl
  obtain ⟨m0, q3, q4⟩ := dwhile_inv (ft := t_date_of_2) (fb := w_date_of_2) (st := st) (env := [some (.int n), some (.int y0), some (.int (n - dby y0)), some (.int 1), some (.bl (leapB y0)), some (.int 31)])
    (fun k : Int => [some (.int n), some (.int y0), some (.int (cum y0 m + d - cum y0 k)), some (.int k), some (.bl (leapB y0)), some (.int (dim y0 k))]) (fun k => 1 ≤ k ∧ k ≤ m) (fun k => (m - k).toNat) (fun k => k = m) 1 (by rw [hl, cum_1, show dim y0 1 = 31 by simp [dim, LT]]; simp) ⟨by omega, by omega⟩ (by omega) (fun k hk => by
      by_cases e : k = m
      · left
        subst e
        refine ⟨?_, rfl⟩
        unfold t_date_of_2
        simp [aLeT, dSeq, dIfS, dNot, dB, dChain, dC, dVar, dRet, dRetN, dNext, dAndV, dOrV, dNotV, dAnd, dOr, dIf, dTru, truD, dBin, dCons, dNil, dTup, dLst, mkL, dCall, dAsg, dAug, dPar, dgName, dgTup, dgCons, dgNil, dDrop, R.bind, R.s, R.b, aLe, aLt, aGt, aGe, aSub, aAdd, aMul, aFdiv, aMod, aEq, aNe, aIsN, aNotN, D.isNon, aAddI, aIx, L2.atI, L2.ixN, beqi, seqA, seqL, seqR, okEq, norm, D.isSc, D.isStr, D.dat, D.dats, D.dep, D.deps, D.eqv, D.eqvs, dRaise, dNeg, bSum, bAbs, bInt, bMax2, bMin2, bLen, intsD, dSl, aSl, dP, dNoP, okMul, fm, fd]
        omega
      · right
        have a := cum_next (y := y0) (m := k) (by omega) (by omega)
        have b := cum_mono (y := y0) (k := k) (m := m) (by omega) (by omega) (by omega)
        refine ⟨?_, k + 1, ?_, ⟨by omega, by omega⟩, by omega⟩
        · unfold t_date_of_2
          simp [aLeT, dSeq, dIfS, dNot, dB, dChain, dC, dVar, dRet, dRetN, dNext, dAndV, dOrV, dNotV, dAnd, dOr, dIf, dTru, truD, dBin, dCons, dNil, dTup, dLst, mkL, dCall, dAsg, dAug, dPar, dgName, dgTup, dgCons, dgNil, dDrop, R.bind, R.s, R.b, aLe, aLt, aGt, aGe, aSub, aAdd, aMul, aFdiv, aMod, aEq, aNe, aIsN, aNotN, D.isNon, aAddI, aIx, L2.atI, L2.ixN, beqi, seqA, seqL, seqR, okEq, norm, D.isSc, D.isStr, D.dat, D.dats, D.dep, D.deps, D.eqv, D.eqvs, dRaise, dNeg, bSum, bAbs, bInt, bMax2, bMin2, bLen, intsD, dSl, aSl, dP, dNoP, okMul, fm, fd]
          omega
        · unfold w_date_of_2
          have c : cum y0 m + d - cum y0 k - dim y0 k = cum y0 m + d - cum y0 (k + 1) := by omega
          have hk2 : k ≤ 11 := by omega
          simp [aLeT, dSeq, dIfS, dNot, dB, dChain, dC, dVar, dRet, dRetN, dNext, dAndV, dOrV, dNotV, dAnd, dOr, dIf, dTru, truD, dBin, dCons, dNil, dTup, dLst, mkL, dCall, dAsg, dAug, dPar, dgName, dgTup, dgCons, dgNil, dDrop, R.bind, R.s, R.b, aLe, aLt, aGt, aGe, aSub, aAdd, aMul, aFdiv, aMod, aEq, aNe, aIsN, aNotN, D.isNon, aAddI, aIx, L2.atI, L2.ixN, beqi, seqA, seqL, seqR, okEq, norm, D.isSc, D.isStr, D.dat, D.dats, D.dep, D.deps, D.eqv, D.eqvs, dRaise, dNeg, bSum, bAbs, bInt, bMax2, bMin2, bLen, intsD, dSl, aSl, dP, dNoP, okMul, fm, fd, c]
          have hk3 : k = 1 ∨ k = 2 ∨ k = 3 ∨ k = 4 ∨ k = 5 ∨ k = 6 ∨ k = 7 ∨ k = 8 ∨ k = 9 ∨ k = 10 ∨ k = 11 := by omega
          rcases hk3 with rfl | rfl | rfl | rfl | rfl | rfl | rfl | rfl | rfl | rfl | rfl <;> cases hl : leapB y0 <;> simp [aLeT, dSeq, dIfS, dNot, dB, dChain, dC, dVar, dRet, dRetN, dNext, dAndV, dOrV, dNotV, dAnd, dOr, dIf, dTru, truD, dBin, dCons, dNil, dTup, dLst, mkL, dCall, dAsg, dAug, dPar, dgName, dgTup, dgCons, dgNil, dDrop, R.bind, R.s, R.b, aLe, aLt, aGt, aGe, aSub, aAdd, aMul, aFdiv, aMod, aEq, aNe, aIsN, aNotN, D.isNon, aAddI, aIx, L2.atI, L2.ixN, beqi, seqA, seqL, seqR, okEq, norm, D.isSc, D.isStr, D.dat, D.dats, D.dep, D.deps, D.eqv, D.eqvs, dRaise, dNeg, bSum, bAbs, bInt, bMax2, bMin2, bLen, intsD, dSl, aSl, dP, dNoP, okMul, fm, fd, c_MONTH_LENGTHS, dim, LT, hl])
  subst q4
  unfold f_date_of b_date_of runB
  simp [aLeT, dSeq, dIfS, dNot, dB, dChain, dC, dVar, dRet, dRetN, dNext, dAndV, dOrV, dNotV, dAnd, dOr, dIf, dTru, truD, dBin, dCons, dNil, dTup, dLst, mkL, dCall, dAsg, dAug, dPar, dgName, dgTup, dgCons, dgNil, dDrop, R.bind, R.s, R.b, aLe, aLt, aGt, aGe, aSub, aAdd, aMul, aFdiv, aMod, aEq, aNe, aIsN, aNotN, D.isNon, aAddI, aIx, L2.atI, L2.ixN, beqi, seqA, seqL, seqR, okEq, norm, D.isSc, D.isStr, D.dat, D.dats, D.dep, D.deps, D.eqv, D.eqvs, dRaise, dNeg, bSum, bAbs, bInt, bMax2, bMin2, bLen, intsD, dSl, aSl, dP, dNoP, okMul, fm, fd, e_cnum, hb, max_1, fd146, q1, e_dby, hyl, q3]
  omega
end K02

namespace K02
open PySem G
theorem lstAt_set {st : Store} {n : Nat} {ds es : List D} (h : lstAt st n = some ds) : lstAt (st.set n (.lst es)) n = some es := by
  unfold lstAt at h ⊢
  have hn : n < st.length := by
    cases q : st[n]? with
    | none => rw [q] at h; cases h
    | some o => exact (List.getElem?_eq_some_iff.mp q).1
  rw [List.getElem?_set_self hn]
theorem roll_in (i many : Int) (h : 1 ≤ many) : 0 ≤ i.fmod many ∧ i.fmod many < many := ⟨Int.fmod_nonneg_of_pos i (by omega), Int.fmod_lt_of_pos i (by omega)⟩
theorem e_roll {st : Store} {n : Nat} {a b c : Int} (many : Int) (hs : lstAt st n = some [.int a, .int b, .int c]) (h1 : 1 ≤ many) (h2 : many ≤ 100000000) :
    ∃ r a' b' c' : Int, 0 ≤ r ∧ r < many ∧ f__law_roll [.ref n, .int many] st = .ok (.int r) (st.set n (.lst [.int a', .int b', .int c'])) := by
  have h3 : many ≠ 0 := by omega
  have h4 : many.natAbs < 1073741824 := by omega
  have h5 : ¬ 100000000 < many := by omega
  have hsn : ∀ es, lstAt (st.set n (.lst es)) n = some es := fun es => lstAt_set hs
  by_cases hc : c = 2 ∨ (c = 1 ∧ 0 < a)
  · refine ⟨a.fmod many, a.fdiv many, b, c, (roll_in a many h1).1, (roll_in a many h1).2, ?_⟩
    show runB 3 (b__law_roll (r__law_roll 3)) _ _ = _
    unfold b__law_roll runB
    rcases hc with rfl | ⟨rfl, h⟩
    · simp [aLeT, dSeq, dIfS, dNot, dB, dChain, dC, dVar, dRet, dRetN, dNext, dAndV, dOrV, dNotV, dAnd, dOr, dIf, dTru, truD, dBin, dCons, dNil, dTup, dLst, mkL, dCall, dAsg, dAug, dPar, dgName, dgTup, dgCons, dgNil, dDrop, R.bind, R.s, R.b, aLe, aLt, aGt, aGe, aSub, aAdd, aMul, aFdiv, aMod, aEq, aNe, aIsN, aNotN, D.isNon, aAddI, aIx, L2.atI, L2.ixN, beqi, seqA, seqL, seqR, okEq, norm, D.isSc, D.isStr, D.dat, D.dats, D.dep, D.deps, D.eqv, D.eqvs, dRaise, dNeg, bSum, bAbs, bInt, bMax2, bMin2, bLen, intsD, dSl, aSl, dP, dNoP, okMul, fm, fd, setAt, dSetL, hs, h3, h4]
    · simp [aLeT, dSeq, dIfS, dNot, dB, dChain, dC, dVar, dRet, dRetN, dNext, dAndV, dOrV, dNotV, dAnd, dOr, dIf, dTru, truD, dBin, dCons, dNil, dTup, dLst, mkL, dCall, dAsg, dAug, dPar, dgName, dgTup, dgCons, dgNil, dDrop, R.bind, R.s, R.b, aLe, aLt, aGt, aGe, aSub, aAdd, aMul, aFdiv, aMod, aEq, aNe, aIsN, aNotN, D.isNon, aAddI, aIx, L2.atI, L2.ixN, beqi, seqA, seqL, seqR, okEq, norm, D.isSc, D.isStr, D.dat, D.dats, D.dep, D.deps, D.eqv, D.eqvs, dRaise, dNeg, bSum, bAbs, bInt, bMax2, bMin2, bLen, intsD, dSl, aSl, dP, dNoP, okMul, fm, fd, setAt, dSetL, hs, h3, h4, h]
  · refine ⟨((a * 48271 + b * 69621 + 11).fmod 2147483647 / 7).fmod many, (a * 48271 + b * 69621 + 11).fmod 2147483647, b + 1, 0, (roll_in _ many h1).1, (roll_in _ many h1).2, ?_⟩
    show runB 3 (b__law_roll (r__law_roll 3)) _ _ = _
    unfold b__law_roll runB
    have e7 : ∀ i : Int, i.fdiv 7 = i / 7 := fun i => fd i
    have hcc : c ≠ 2 := fun z => hc (.inl z)
    by_cases hc1 : c = 1
    · have ha : ¬ 0 < a := fun z => hc (.inr ⟨hc1, z⟩)
      subst hc1
      simp [aLeT, dSeq, dIfS, dNot, dB, dChain, dC, dVar, dRet, dRetN, dNext, dAndV, dOrV, dNotV, dAnd, dOr, dIf, dTru, truD, dBin, dCons, dNil, dTup, dLst, mkL, dCall, dAsg, dAug, dPar, dgName, dgTup, dgCons, dgNil, dDrop, R.bind, R.s, R.b, aLe, aLt, aGt, aGe, aSub, aAdd, aMul, aFdiv, aMod, aEq, aNe, aIsN, aNotN, D.isNon, aAddI, aIx, L2.atI, L2.ixN, beqi, seqA, seqL, seqR, okEq, norm, D.isSc, D.isStr, D.dat, D.dats, D.dep, D.deps, D.eqv, D.eqvs, dRaise, dNeg, bSum, bAbs, bInt, bMax2, bMin2, bLen, intsD, dSl, aSl, dP, dNoP, okMul, fm, fd, setAt, dSetL, hs, hsn, h3, h4, h5, ha, e7]
    · simp [aLeT, dSeq, dIfS, dNot, dB, dChain, dC, dVar, dRet, dRetN, dNext, dAndV, dOrV, dNotV, dAnd, dOr, dIf, dTru, truD, dBin, dCons, dNil, dTup, dLst, mkL, dCall, dAsg, dAug, dPar, dgName, dgTup, dgCons, dgNil, dDrop, R.bind, R.s, R.b, aLe, aLt, aGt, aGe, aSub, aAdd, aMul, aFdiv, aMod, aEq, aNe, aIsN, aNotN, D.isNon, aAddI, aIx, L2.atI, L2.ixN, beqi, seqA, seqL, seqR, okEq, norm, D.isSc, D.isStr, D.dat, D.dats, D.dep, D.deps, D.eqv, D.eqvs, dRaise, dNeg, bSum, bAbs, bInt, bMax2, bMin2, bLen, intsD, dSl, aSl, dP, dNoP, okMul, fm, fd, setAt, dSetL, hs, hsn, h3, h4, h5, hcc, hc1, e7]
end K02

namespace K02
open PySem G
theorem lcF {α : Type} {gt : DG} {ft : DT} {fe : DE} {env : G.Env} {st : Store} (mk v : α → D) (e' : α → G.Env) (p : α → Bool) : ∀ l : List α, (∀ a ∈ l, gt (mk a) env = some (e' a) ∧ ft (e' a) st = .ok (p a) st ∧ (p a = true → fe (e' a) st = .ok (v a) st)) → lcD gt ft fe none (l.map mk) env st = .ok ((l.filter p).map v) st
  | [], _ => by simp [lcD, gdOk]
  | a :: l, h => by
    obtain ⟨h1, h2, h3⟩ := h a List.mem_cons_self
    have ih := lcF mk v e' p l fun b hb => h b (List.mem_cons_of_mem _ hb)
    cases c : p a with
    | true => simp [lcD, gdOk, h1, h2, c, h3 c, R.b, ih]
    | false => simp [lcD, gdOk, h1, h2, c, R.b, ih]
theorem lcM {α : Type} {gt : DG} {fe : DE} {env : G.Env} {st : Store} (mk v : α → D) (e' : α → G.Env) (l : List α) (h : ∀ a ∈ l, gt (mk a) env = some (e' a) ∧ fe (e' a) st = .ok (v a) st) : lcD gt dYes fe none (l.map mk) env st = .ok (l.map v) st := by
  have := lcF (gt := gt) (ft := dYes) (fe := fe) (env := env) (st := st) mk v e' (fun _ => true) l fun a ha => ⟨(h a ha).1, rfl, fun _ => (h a ha).2⟩
  rw [List.filter_eq_self.mpr fun _ _ => rfl] at this
  exact this
def rng (a : Int) (n : Nat) : List Int := (List.range n).map fun j => a + (j : Nat)
theorem rngD (lo hi : Int) : rangeD lo hi = (rng lo (hi - lo).toNat).map .int := by
  unfold rangeD rng
  rw [List.map_map]
  rfl
theorem rng_mem {a : Int} {n : Nat} {z : Int} (h : z ∈ rng a n) : a ≤ z ∧ z < a + n := by
  obtain ⟨j, hj, e⟩ := List.mem_map.mp h
  have := List.mem_range.mp hj
  omega
theorem rng_len (a : Int) (n : Nat) : (rng a n).length = n := by simp [rng]
theorem range_len (lo hi : Int) : (rangeD lo hi).length = (hi - lo).toNat := by
  unfold rangeD
  simp
/-! all numbers are dates' -/
theorem onto (n : Int) (h1 : 1 ≤ n) (h2 : n ≤ 3652059) : ∃ p : Int × Int × Int, Val p.1 p.2.1 p.2.2 ∧ num p.1 p.2.1 p.2.2 = n := by
  obtain ⟨k, rfl⟩ : ∃ k : Nat, n = (k : Int) + 1 := ⟨(n - 1).toNat, by omega⟩
  clear h1
  induction k with
  | zero => exact ⟨(1, 1, 1), by decide, by decide⟩
  | succ k ih =>
    obtain ⟨⟨y, m, d⟩, h, e⟩ := ih (by omega)
    obtain ⟨⟨⟨a1, a2⟩, a3, a4⟩, a5, a6⟩ := h
    have a1 : 1 ≤ y := a1
    have a2 : y ≤ 9999 := a2
    have a3 : 1 ≤ m := a3
    have a4 : m ≤ 12 := a4
    have a5 : 1 ≤ d := a5
    have a6 : d ≤ dim y m := a6
    have e : num y m d = (k : Int) + 1 := e
    by_cases c : d < dim y m
    · refine ⟨(y, m, d + 1), ⟨⟨⟨a1, a2⟩, a3, a4⟩, by show 1 ≤ d + 1; omega, by show d + 1 ≤ dim y m; omega⟩, ?_⟩
      show num y m (d + 1) = _
      unfold num at e ⊢
      omega
    · by_cases c2 : m < 12
      · have := cum_next (y := y) a3 a4
        have := dim_pos (y := y) (m := m + 1) (by omega) (by omega)
        refine ⟨(y, m + 1, 1), ⟨⟨⟨a1, a2⟩, by show 1 ≤ m + 1; omega, by show m + 1 ≤ 12; omega⟩, by show (1 : Int) ≤ 1; omega, by show 1 ≤ dim y (m + 1); omega⟩, ?_⟩
        show num y (m + 1) 1 = _
        unfold num at e ⊢
        omega
      · have hm : m = 12 := by omega
        subst hm
        have b1 := cum_next (y := y) (m := 12) (by decide) (by decide)
        have b2 := cum_13 y
        have b3 := dby_next y
        have b4 := cum_1 (y + 1)
        have hy : y + 1 ≤ 9999 := by
          by_cases hy : y = 9999
          · subst hy
            have : dby 10000 = 3652059 := by decide
            have : dby (9999 + 1) = 3652059 := this
            unfold num at e
            simp at b1
            omega
          · omega
        have := dim_pos (y := y + 1) (m := 1) (by omega) (by omega)
        refine ⟨(y + 1, 1, 1), ⟨⟨⟨by show 1 ≤ y + 1; omega, hy⟩, by show (1 : Int) ≤ 1; decide, by show (1 : Int) ≤ 12; decide⟩, by show (1 : Int) ≤ 1; omega, by show 1 ≤ dim (y + 1) 1; omega⟩, ?_⟩
        show num (y + 1) 1 1 = _
        unfold num at e ⊢
        simp at b1
        omega
noncomputable def dat (n : Int) : Int × Int × Int := if h : 1 ≤ n ∧ n ≤ 3652059 then (onto n h.1 h.2).choose else (1, 1, 1)
theorem dat_spec {n : Int} (h : 1 ≤ n ∧ n ≤ 3652059) : Val (dat n).1 (dat n).2.1 (dat n).2.2 ∧ num (dat n).1 (dat n).2.1 (dat n).2.2 = n := by
  unfold dat
  rw [dif_pos h]
  exact (onto n h.1 h.2).choose_spec
def tupD (p : Int × Int × Int) : D := .tup [.int p.1, .int p.2.1, .int p.2.2]
noncomputable def yr (n : Int) : Int := (dat n).1
theorem e_date {n : Int} (h : 1 ≤ n ∧ n ≤ 3652059) (st : Store) : f_date_of [.int n] st = .ok (.tup [.int (yr n), .int (dat n).2.1, .int (dat n).2.2]) st := by
  obtain ⟨h1, h2⟩ := dat_spec h
  have := e_date_of h1 st
  rw [h2] at this
  exact this
theorem e_num' {y m d : Int} (h : Val y m d) (st : Store) : f_day_number [.tup [.int y, .int m, .int d]] st = .ok (.int (num y m d)) st := (e_num y m d st).trans (if_pos h)
/-- the year of a number -/
theorem yr_iff {n Y : Int} (h : 1 ≤ n ∧ n ≤ 3652059) : yr n = Y ↔ dby Y < n ∧ n ≤ dby (Y + 1) := by
  obtain ⟨h1, h2⟩ := dat_spec h
  have hi := num_in h1
  rw [h2] at hi
  constructor
  · intro e; rw [← e]; exact hi
  · intro ⟨e1, e2⟩
    show (dat n).1 = Y
    rcases Int.lt_trichotomy (dat n).1 Y with c | c | c
    · have := dby_mono c; omega
    · exact c
    · have := dby_mono c; omega
theorem dby_year (y : Int) : dby y + 365 ≤ dby (y + 1) ∧ dby (y + 1) ≤ dby y + 366 := by
  have := dby_next y
  split at this <;> omega
theorem fm7 (i : Int) : i.fmod 7 = i % 7 := fm i
theorem fd7 (i : Int) : i.fdiv 7 = i / 7 := fd i
theorem e_weekday (n : Int) (st : Store) (h : 1 ≤ n ∧ n ≤ 3652059) : f_weekday_of [.int n] st = .ok (.int ((n - 1) % 7)) st := by
  unfold f_weekday_of b_weekday_of runB
  simp [aLeT, dSeq, dIfS, dNot, dB, dChain, dC, dVar, dRet, dRetN, dNext, dAndV, dOrV, dNotV, dAnd, dOr, dIf, dTru, truD, dBin, dCons, dNil, dTup, dLst, mkL, dCall, dAsg, dAug, dPar, dgName, dgTup, dgCons, dgNil, dDrop, R.bind, R.s, R.b, aLe, aLt, aGt, aGe, aSub, aAdd, aMul, aFdiv, aMod, aEq, aNe, aIsN, aNotN, D.isNon, aAddI, aIx, L2.atI, L2.ixN, beqi, seqA, seqL, seqR, okEq, norm, D.isSc, D.isStr, D.dat, D.dats, D.dep, D.deps, D.eqv, D.eqvs, dRaise, dNeg, bSum, bAbs, bInt, bMax2, bMin2, bLen, intsD, dSl, aSl, dP, dNoP, okMul, fm, fd, e_cnum, h, fm7]
/-- how many of seven lie between -/
theorem cnt7 (L U s : Int) (h : L + 300 ≤ U) : 3 < ((rng 0 7).filter fun k => decide (L < s + k ∧ s + k ≤ U)).length ↔ L < s + 3 ∧ s + 3 ≤ U := by
  have e : rng 0 7 = [0, 1, 2, 3, 4, 5, 6] := by decide
  rw [e]
  by_cases c0 : L < s
  · have a1 : L < s + 1 := by omega
    have a2 : L < s + 2 := by omega
    have a3 : L < s + 3 := by omega
    have a4 : L < s + 4 := by omega
    have a5 : L < s + 5 := by omega
    have a6 : L < s + 6 := by omega
    by_cases b0 : s ≤ U <;> by_cases b1 : s + 1 ≤ U <;> try omega
    all_goals by_cases b2 : s + 2 ≤ U <;> try omega
    all_goals by_cases b3 : s + 3 ≤ U <;> try omega
    all_goals by_cases b4 : s + 4 ≤ U <;> try omega
    all_goals by_cases b5 : s + 5 ≤ U <;> try omega
    all_goals by_cases b6 : s + 6 ≤ U <;> try omega
    all_goals simp [c0, a1, a2, a3, a4, a5, a6, b0, b1, b2, b3, b4, b5, b6]
  · by_cases u : s + 6 ≤ U
    · have a0 : s ≤ U := by omega
      have a1 : s + 1 ≤ U := by omega
      have a2 : s + 2 ≤ U := by omega
      have a3 : s + 3 ≤ U := by omega
      have a4 : s + 4 ≤ U := by omega
      have a5 : s + 5 ≤ U := by omega
      by_cases b1 : L < s + 1 <;> by_cases b2 : L < s + 2 <;> try omega
      all_goals by_cases b3 : L < s + 3 <;> try omega
      all_goals by_cases b4 : L < s + 4 <;> try omega
      all_goals by_cases b5 : L < s + 5 <;> try omega
      all_goals by_cases b6 : L < s + 6 <;> try omega
      all_goals simp [c0, u, a0, a1, a2, a3, a4, a5, b1, b2, b3, b4, b5, b6]
    · omega
end K02

namespace K02
open PySem G
/-- the fourth day of a number's week -/
def thu (n : Int) : Int := n - (n - 1) % 7 + 3
/-- the year and the week of a number -/
noncomputable def wy (n : Int) : Int := yr (thu n)
noncomputable def wk (n : Int) : Int := (thu n - (dby (wy n) + 1)) / 7 + 1
def mid (n : Int) : Prop := 1000 ≤ n ∧ n ≤ 3000000
theorem mid_ok {n k : Int} (h : mid n) (h1 : -900 ≤ k) (h2 : k ≤ 900) : 1 ≤ n + k ∧ n + k ≤ 3652059 := by unfold mid at h; omega
theorem thu_in {n : Int} (h : mid n) : 1 ≤ thu n ∧ thu n ≤ 3652059 := by unfold mid at h; unfold thu; omega
theorem wy_in {n : Int} (h : mid n) : dby (wy n) < thu n ∧ thu n ≤ dby (wy n + 1) := (yr_iff (thu_in h)).mp rfl
theorem yr_val {n : Int} (h : 1 ≤ n ∧ n ≤ 3652059) : 1 ≤ yr n ∧ yr n ≤ 9999 := (dat_spec h).1.1.1
theorem num_jan (y : Int) : num y 1 1 = dby y + 1 := by unfold num; rw [cum_1]; omega
theorem v_jan {y : Int} (h : 1 ≤ y ∧ y ≤ 9999) : Val y 1 1 := ⟨⟨h, by decide, by decide⟩, by decide, by have := dim_pos (y := y) (m := 1) (by decide) (by decide); omega⟩
theorem v_jan4 {y : Int} (h : 1 ≤ y ∧ y ≤ 9999) : Val y 1 4 := ⟨⟨h, by decide, by decide⟩, by decide, by have := dim_pos (y := y) (m := 1) (by decide) (by decide); omega⟩
theorem dim_12 (y : Int) : dim y 12 = 31 := by simp [dim, LT]
theorem v_dec {y d : Int} (h : 1 ≤ y ∧ y ≤ 9999) (h1 : 1 ≤ d) (h2 : d ≤ 31) : Val y 12 d := ⟨⟨h, by decide, by decide⟩, h1, by rw [dim_12]; exact h2⟩
theorem num_dec (y d : Int) : num y 12 d = dby (y + 1) - 31 + d := by
  have a := cum_next (y := y) (m := 12) (by decide) (by decide)
  have b := cum_13 y
  have c := dby_next y
  have e := dim_12 y
  unfold num
  simp at a
  omega
theorem e_weekof {y m d : Int} (h : Val y m d) (hn : mid (num y m d)) (st : Store) : f_week_of [.tup [.int y, .int m, .int d]] st = .ok (.tup [.int (wy (num y m d)), .int (wk (num y m d)), .int ((num y m d - 1) % 7)]) st := by
  obtain ⟨n, hN⟩ : ∃ n, n = num y m d := ⟨_, rfl⟩
  have e1 := fun st => e_num' h st
  rw [← hN] at e1 hn ⊢
  have e2 := fun st => e_weekday n st (by have := mid_ok (k := 0) hn (by decide) (by decide); simpa using this)
  have e3 : ∀ st, f_day_number [.tup [.int 9999, .int 12, .int 31]] st = .ok (.int 3652059) st := fun st => by
    have := e_num' (y := 9999) (m := 12) (d := 31) (by decide) st
    rw [show num 9999 12 31 = 3652059 by decide] at this
    exact this
  have e4 := fun st => e_date (thu_in hn) st
  have hw := yr_val (thu_in hn)
  have e5 := fun st => e_num' (v_jan (y := wy n) hw) st
  rw [num_jan] at e5
  have t : n - (n - 1) % 7 + 3 = thu n := rfl
  have hw2 : yr (thu n) = wy n := rfl
  obtain ⟨t1, t2⟩ := thu_in hn
  have t3 : ¬ thu n < 1 := by omega
  have t4 : ¬ 3652059 < thu n := by omega
  unfold f_week_of b_week_of runB
  simp [aLeT, dSeq, dIfS, dNot, dB, dChain, dC, dVar, dRet, dRetN, dNext, dAndV, dOrV, dNotV, dAnd, dOr, dIf, dTru, truD, dBin, dCons, dNil, dTup, dLst, mkL, dCall, dAsg, dAug, dPar, dgName, dgTup, dgCons, dgNil, dDrop, R.bind, R.s, R.b, aLe, aLt, aGt, aGe, aSub, aAdd, aMul, aFdiv, aMod, aEq, aNe, aIsN, aNotN, D.isNon, aAddI, aIx, L2.atI, L2.ixN, beqi, seqA, seqL, seqR, okEq, norm, D.isSc, D.isStr, D.dat, D.dats, D.dep, D.deps, D.eqv, D.eqvs, dRaise, dNeg, bSum, bAbs, bInt, bMax2, bMin2, bLen, intsD, dSl, aSl, dP, dNoP, okMul, fm, fd, e1, e2, e3, t, t3, t4, e4, hw2, e5, fd7, wk]
theorem e_firstweek {y : Int} (h : 1 ≤ y ∧ y ≤ 9999) (st : Store) : f_first_week [.int y] st = .ok (.int (dby y + 4 - (dby y + 3) % 7)) st := by
  have e1 := fun st => e_num' (v_jan4 h) st
  have hb := num_bd (v_jan4 h)
  have e0 : num y 1 4 = dby y + 4 := by unfold num; rw [cum_1]; omega
  rw [e0] at e1 hb
  have e2 := fun st => e_weekday (dby y + 4) st hb
  have e3 : dby y + 4 - 1 = dby y + 3 := by omega
  unfold f_first_week b_first_week runB
  simp [aLeT, dSeq, dIfS, dNot, dB, dChain, dC, dVar, dRet, dRetN, dNext, dAndV, dOrV, dNotV, dAnd, dOr, dIf, dTru, truD, dBin, dCons, dNil, dTup, dLst, mkL, dCall, dAsg, dAug, dPar, dgName, dgTup, dgCons, dgNil, dDrop, R.bind, R.s, R.b, aLe, aLt, aGt, aGe, aSub, aAdd, aMul, aFdiv, aMod, aEq, aNe, aIsN, aNotN, D.isNon, aAddI, aIx, L2.atI, L2.ixN, beqi, seqA, seqL, seqR, okEq, norm, D.isSc, D.isStr, D.dat, D.dats, D.dep, D.deps, D.eqv, D.eqvs, dRaise, dNeg, bSum, bAbs, bInt, bMax2, bMin2, bLen, intsD, dSl, aSl, dP, dNoP, okMul, fm, fd, e1, e2, e3]
theorem e_weeksin {y : Int} (h : 1 ≤ y ∧ y ≤ 9999) (hm : mid (dby (y + 1) - 3)) (st : Store) : f_weeks_in_year [.int y] st = .ok (.int (wk (dby (y + 1) - 3))) st := by
  have v := v_dec (d := 28) h (by decide) (by decide)
  have e0 : num y 12 28 = dby (y + 1) - 3 := by rw [num_dec]; omega
  have e1 := fun st => e_weekof v (by rw [e0]; exact hm) st
  rw [e0] at e1
  unfold f_weeks_in_year b_weeks_in_year runB
  simp [aLeT, dSeq, dIfS, dNot, dB, dChain, dC, dVar, dRet, dRetN, dNext, dAndV, dOrV, dNotV, dAnd, dOr, dIf, dTru, truD, dBin, dCons, dNil, dTup, dLst, mkL, dCall, dAsg, dAug, dPar, dgName, dgTup, dgCons, dgNil, dDrop, R.bind, R.s, R.b, aLe, aLt, aGt, aGe, aSub, aAdd, aMul, aFdiv, aMod, aEq, aNe, aIsN, aNotN, D.isNon, aAddI, aIx, L2.atI, L2.ixN, beqi, seqA, seqL, seqR, okEq, norm, D.isSc, D.isStr, D.dat, D.dats, D.dep, D.deps, D.eqv, D.eqvs, dRaise, dNeg, bSum, bAbs, bInt, bMax2, bMin2, bLen, intsD, dSl, aSl, dP, dNoP, okMul, fm, fd, e1]
theorem e_cweekday (w : Int) (st : Store) : f_check_weekday [.int w] st = if 0 ≤ w ∧ w ≤ 6 then .ok .non st else .ex "WeekError" st := by
  unfold f_check_weekday b_check_weekday runB
  by_cases h1 : 0 ≤ w <;> by_cases h2 : w ≤ 6 <;> simp [aLeT, dSeq, dIfS, dNot, dB, dChain, dC, dVar, dRet, dRetN, dNext, dAndV, dOrV, dNotV, dAnd, dOr, dIf, dTru, truD, dBin, dCons, dNil, dTup, dLst, mkL, dCall, dAsg, dAug, dPar, dgName, dgTup, dgCons, dgNil, dDrop, R.bind, R.s, R.b, aLe, aLt, aGt, aGe, aSub, aAdd, aMul, aFdiv, aMod, aEq, aNe, aIsN, aNotN, D.isNon, aAddI, aIx, L2.atI, L2.ixN, beqi, seqA, seqL, seqR, okEq, norm, D.isSc, D.isStr, D.dat, D.dats, D.dep, D.deps, D.eqv, D.eqvs, dRaise, dNeg, bSum, bAbs, bInt, bMax2, bMin2, bLen, intsD, dSl, aSl, dP, dNoP, okMul, fm, fd, h1, h2]
/-- the year of the last week -/
theorem wy_dec {y : Int} (hm : mid (dby (y + 1) - 3)) : wy (dby (y + 1) - 3) = y := by
  have := dby_year y
  refine (yr_iff (thu_in hm)).mpr ?_
  unfold thu
  omega
theorem by_week_ok {n : Int} (hn : mid n) (hm : mid (dby (wy n + 1) - 3)) : 1 ≤ wk n ∧ wk n ≤ wk (dby (wy n + 1) - 3) ∧ dby (wy n) + 4 - (dby (wy n) + 3) % 7 + 7 * (wk n - 1) + (n - 1) % 7 = n := by
  have a := wy_in hn
  have b := wy_dec hm
  have c := dby_year (wy n)
  unfold wk
  rw [b]
  unfold thu at a ⊢
  omega
theorem e_byweek {n : Int} (hn : mid n) (hm : mid (dby (wy n + 1) - 3)) (st : Store) : f_by_week [.int (wy n), .int (wk n), .int ((n - 1) % 7)] st = f_date_of [.int n] st := by
  obtain ⟨b1, b2, b3⟩ := by_week_ok hn hm
  have hw := yr_val (thu_in hn)
  have hw : 1 ≤ wy n ∧ wy n ≤ 9999 := hw
  have e1 := fun st => (e_cweekday ((n - 1) % 7) st).trans (if_pos ⟨by omega, by omega⟩)
  have e2 := fun st => e_weeksin hw hm st
  have e3 := fun st => e_firstweek hw st
  unfold f_by_week b_by_week runB
  simp [aLeT, dSeq, dIfS, dNot, dB, dChain, dC, dVar, dRet, dRetN, dNext, dAndV, dOrV, dNotV, dAnd, dOr, dIf, dTru, truD, dBin, dCons, dNil, dTup, dLst, mkL, dCall, dAsg, dAug, dPar, dgName, dgTup, dgCons, dgNil, dDrop, R.bind, R.s, R.b, aLe, aLt, aGt, aGe, aSub, aAdd, aMul, aFdiv, aMod, aEq, aNe, aIsN, aNotN, D.isNon, aAddI, aIx, L2.atI, L2.ixN, beqi, seqA, seqL, seqR, okEq, norm, D.isSc, D.isStr, D.dat, D.dats, D.dep, D.deps, D.eqv, D.eqvs, dRaise, dNeg, bSum, bAbs, bInt, bMax2, bMin2, bLen, intsD, dSl, aSl, dP, dNoP, okMul, fm, fd, e1, e2, e3, b1, b2, b3]
  cases f_date_of [.int n] st <;> rfl
theorem fw_law {n : Int} (hn : mid n) : dby (wy n) + 4 - (dby (wy n) + 3) % 7 = n - (n - 1) % 7 - 7 * (wk n - 1) := by
  have a := wy_in hn
  have c := dby_year (wy n)
  unfold wk
  unfold thu at a ⊢
  omega
/-- weeks of December's days -/
theorem last_law {y : Int} (hm : mid (dby (y + 1) - 3)) : wy (dby (y + 1) - 7) = y ∧ wk (dby (y + 1) - 7) ≤ wk (dby (y + 1) - 3) ∧ (wy (dby (y + 1)) = y → wk (dby (y + 1)) = wk (dby (y + 1) - 3)) := by
  have c := dby_year y
  have b := wy_dec hm
  have a : 1 ≤ thu (dby (y + 1) - 7) ∧ thu (dby (y + 1) - 7) ≤ 3652059 := by unfold mid at hm; unfold thu; omega
  have a2 : 1 ≤ thu (dby (y + 1)) ∧ thu (dby (y + 1)) ≤ 3652059 := by unfold mid at hm; unfold thu; omega
  have b1 : wy (dby (y + 1) - 7) = y := by
    refine (yr_iff a).mpr ?_
    unfold thu
    omega
  refine ⟨b1, ?_, fun e => ?_⟩
  · unfold wk
    rw [b, b1]
    unfold thu
    omega
  · have := (yr_iff a2).mp e
    unfold wk
    rw [b, e]
    unfold thu at this ⊢
    omega
end K02

namespace K02
open PySem G
noncomputable def datD (n : Int) : D := .tup [.int (yr n), .int (dat n).2.1, .int (dat n).2.2]
theorem e_date2 {n : Int} (h : 1 ≤ n ∧ n ≤ 3652059) (st : Store) : f_date_of [.int n] st = .ok (datD n) st := e_date h st
theorem filter_iff {α : Type} (p q : α → Bool) (l : List α) (h : ∀ a ∈ l, p a = q a) : l.filter p = l.filter q := List.filter_congr h
/-- the years of a week -/
theorem yrs {a Y : Int} (h : mid a) : (3 < ((rng 0 7).filter fun k => decide (yr (a + k) = Y)).length) ↔ yr (a + 3) = Y := by
  have e : ((rng 0 7).filter fun k => decide (yr (a + k) = Y)) = (rng 0 7).filter fun k => decide (dby Y < a + k ∧ a + k ≤ dby (Y + 1)) := filter_iff _ _ _ fun k hk => by
    have := rng_mem hk
    have hi := yr_iff (n := a + k) (Y := Y) (mid_ok h (by omega) (by omega))
    by_cases c : yr (a + k) = Y
    · rw [decide_eq_true c, decide_eq_true (hi.mp c)]
    · rw [decide_eq_false c, decide_eq_false (fun z => c (hi.mpr z))]
  rw [e, cnt7 _ _ _ (by have := dby_year Y; omega)]
  exact (yr_iff (mid_ok h (by decide) (by decide))).symm
theorem atI0 (x : D) (l : List D) : L2.atI (x :: l) 0 = some x := by simp [L2.atI, L2.ixN]
theorem e_lawweek {y m d : Int} (h : Val y m d) (hn : mid (num y m d - 600) ∧ mid (num y m d + 6)) (st : Store) : f__law_week [.tup [.int y, .int m, .int d]] st = .ok (.tup [.int (wy (num y m d)), .int (wk (num y m d)), .int ((num y m d - 1) % 7)]) st := by
  obtain ⟨n, hN⟩ : ∃ n, n = num y m d := ⟨_, rfl⟩
  have e1 := fun st => e_num' h st
  rw [← hN] at e1 hn ⊢
  have h7 : (n + 6) % 7 = (n - 1) % 7 := by omega
  obtain ⟨a, ha⟩ : ∃ a, a = n - (n - 1) % 7 := ⟨_, rfl⟩
  obtain ⟨w, hw⟩ : ∃ w, w = (n - 1) % 7 := ⟨_, rfl⟩
  rw [← hw] at ha h7 ⊢
  have hmn : mid n := by unfold mid at hn ⊢; omega
  have hma : mid a := by unfold mid at hn ⊢; omega
  have hth : thu n = a + 3 := by unfold thu; omega
  have hY : yr (a + 3) = wy n := by rw [← hth]; rfl
  have q1 := lcM (gt := dgName 4) (fe := y__law_week_1) (env := [some (.tup [.int y, .int m, .int d]), some (.int n), some (.int w), none, none, none, none, none, none, none]) (st := st) .int (fun k => datD (a + k)) (fun k => [some (.tup [.int y, .int m, .int d]), some (.int n), some (.int w), none, some (.int k), none, none, none, none, none]) (rng 0 7) (fun k hk => by
    have := rng_mem hk
    have e2 := fun st => e_date2 (mid_ok (k := k) hma (by omega) (by omega)) st
    have e3 : n - w + k = a + k := by omega
    refine ⟨rfl, ?_⟩
    unfold y__law_week_1
    simp [aLeT, dSeq, dIfS, dNot, dB, dChain, dC, dVar, dRet, dRetN, dNext, dAndV, dOrV, dNotV, dAnd, dOr, dIf, dTru, truD, dBin, dCons, dNil, dTup, dLst, mkL, dCall, dAsg, dAug, dPar, dgName, dgTup, dgCons, dgNil, dDrop, R.bind, R.s, R.b, aLe, aLt, aGt, aGe, aSub, aAdd, aMul, aFdiv, aMod, aEq, aNe, aIsN, aNotN, D.isNon, aAddI, aIx, L2.atI, L2.ixN, beqi, seqA, seqL, seqR, okEq, norm, D.isSc, D.isStr, D.dat, D.dats, D.dep, D.deps, D.eqv, D.eqvs, dRaise, dNeg, bSum, bAbs, bInt, bMax2, bMin2, bLen, intsD, dSl, aSl, dP, dNoP, okMul, fm, fd, e3, e2])
  have q2 := lcF (gt := dgName 6) (ft := (dB (dBin aGt (dCall bLen (dCons (dLc false (dIt (dVar 3)) (dgName 7) (dB (dBin aEq (dBin aIx (dVar 7) (dC (.int 0))) (dBin aIx (dVar 6) (dC (.int 0))))) y__law_week_2 [7]) (dNil))) (dC (.int 3))))) (fe := y__law_week_3) (env := [some (.tup [.int y, .int m, .int d]), some (.int n), some (.int w), some (.lst ((rng 0 7).map fun k => datD (a + k))), none, none, none, none, none, none]) (st := st)
    (fun k => datD (a + k)) (fun k => .int (yr (a + k))) (fun k => [some (.tup [.int y, .int m, .int d]), some (.int n), some (.int w), some (.lst ((rng 0 7).map fun k => datD (a + k))), none, none, some (datD (a + k)), none, none, none]) (fun k => decide (yr (a + 3) = yr (a + k))) (rng 0 7) (fun k hk => by
    have q3 := lcF (gt := dgName 7) (ft := (dB (dBin aEq (dBin aIx (dVar 7) (dC (.int 0))) (dBin aIx (dVar 6) (dC (.int 0)))))) (fe := y__law_week_2) (env := [some (.tup [.int y, .int m, .int d]), some (.int n), some (.int w), some (.lst ((rng 0 7).map fun k => datD (a + k))), none, none, some (datD (a + k)), none, none, none]) (st := st)
      (fun k => datD (a + k)) (fun k => .int 1) (fun j => [some (.tup [.int y, .int m, .int d]), some (.int n), some (.int w), some (.lst ((rng 0 7).map fun k => datD (a + k))), none, none, some (datD (a + k)), some (datD (a + j)), none, none]) (fun j => decide (yr (a + j) = yr (a + k))) (rng 0 7) (fun j hj => by
      refine ⟨rfl, ?_, fun _ => ?_⟩
      · simp [aLeT, dSeq, dIfS, dNot, dB, dChain, dC, dVar, dRet, dRetN, dNext, dAndV, dOrV, dNotV, dAnd, dOr, dIf, dTru, truD, dBin, dCons, dNil, dTup, dLst, mkL, dCall, dAsg, dAug, dPar, dgName, dgTup, dgCons, dgNil, dDrop, R.bind, R.s, R.b, aLe, aLt, aGt, aGe, aSub, aAdd, aMul, aFdiv, aMod, aEq, aNe, aIsN, aNotN, D.isNon, aAddI, aIx, L2.atI, L2.ixN, beqi, seqA, seqL, seqR, okEq, norm, D.isSc, D.isStr, D.dat, D.dats, D.dep, D.deps, D.eqv, D.eqvs, dRaise, dNeg, bSum, bAbs, bInt, bMax2, bMin2, bLen, intsD, dSl, aSl, dP, dNoP, okMul, fm, fd, datD]
      · unfold y__law_week_2
        simp [aLeT, dSeq, dIfS, dNot, dB, dChain, dC, dVar, dRet, dRetN, dNext, dAndV, dOrV, dNotV, dAnd, dOr, dIf, dTru, truD, dBin, dCons, dNil, dTup, dLst, mkL, dCall, dAsg, dAug, dPar, dgName, dgTup, dgCons, dgNil, dDrop, R.bind, R.s, R.b, aLe, aLt, aGt, aGe, aSub, aAdd, aMul, aFdiv, aMod, aEq, aNe, aIsN, aNotN, D.isNon, aAddI, aIx, L2.atI, L2.ixN, beqi, seqA, seqL, seqR, okEq, norm, D.isSc, D.isStr, D.dat, D.dats, D.dep, D.deps, D.eqv, D.eqvs, dRaise, dNeg, bSum, bAbs, bInt, bMax2, bMin2, bLen, intsD, dSl, aSl, dP, dNoP, okMul, fm, fd])
    refine ⟨rfl, ?_, fun _ => ?_⟩
    · have hy := yrs (a := a) (Y := yr (a + k)) hma
      simp [aLeT, dSeq, dIfS, dNot, dB, dChain, dC, dVar, dRet, dRetN, dNext, dAndV, dOrV, dNotV, dAnd, dOr, dIf, dTru, truD, dBin, dCons, dNil, dTup, dLst, mkL, dCall, dAsg, dAug, dPar, dgName, dgTup, dgCons, dgNil, dDrop, R.bind, R.s, R.b, aLe, aLt, aGt, aGe, aSub, aAdd, aMul, aFdiv, aMod, aEq, aNe, aIsN, aNotN, D.isNon, aAddI, aIx, L2.atI, L2.ixN, beqi, seqA, seqL, seqR, okEq, norm, D.isSc, D.isStr, D.dat, D.dats, D.dep, D.deps, D.eqv, D.eqvs, dRaise, dNeg, bSum, bAbs, bInt, bMax2, bMin2, bLen, intsD, dSl, aSl, dP, dNoP, okMul, fm, fd, dLc, dIt, gdOf, wipeE, rng_len, q3]
      rw [← hy]
      omega
    · unfold y__law_week_3
      simp [aLeT, dSeq, dIfS, dNot, dB, dChain, dC, dVar, dRet, dRetN, dNext, dAndV, dOrV, dNotV, dAnd, dOr, dIf, dTru, truD, dBin, dCons, dNil, dTup, dLst, mkL, dCall, dAsg, dAug, dPar, dgName, dgTup, dgCons, dgNil, dDrop, R.bind, R.s, R.b, aLe, aLt, aGt, aGe, aSub, aAdd, aMul, aFdiv, aMod, aEq, aNe, aIsN, aNotN, D.isNon, aAddI, aIx, L2.atI, L2.ixN, beqi, seqA, seqL, seqR, okEq, norm, D.isSc, D.isStr, D.dat, D.dats, D.dep, D.deps, D.eqv, D.eqvs, dRaise, dNeg, bSum, bAbs, bInt, bMax2, bMin2, bLen, intsD, dSl, aSl, dP, dNoP, okMul, fm, fd, datD])
  have q4 : ∃ l, ((rng 0 7).filter fun k => decide (yr (a + 3) = yr (a + k))).map (fun k => D.int (yr (a + k))) = .int (wy n) :: l := by
    have hmem : (3 : Int) ∈ (rng 0 7).filter fun k => decide (yr (a + 3) = yr (a + k)) := List.mem_filter.mpr ⟨by decide, by simp⟩
    cases hf : (rng 0 7).filter fun k => decide (yr (a + 3) = yr (a + k)) with
    | nil => rw [hf] at hmem; cases hmem
    | cons c r =>
      have hc : c ∈ (rng 0 7).filter fun k => decide (yr (a + 3) = yr (a + k)) := by rw [hf]; exact List.mem_cons_self
      have := of_decide_eq_true (List.mem_filter.mp hc).2
      exact ⟨_, by rw [List.map_cons, ← this, hY]⟩
  obtain ⟨l, q4⟩ := q4
  have hwin := wy_in hmn
  have hyear := dby_year (wy n)
  rw [hth] at hwin
  have hwk : wk n = (a + 3 - (dby (wy n) + 1)) / 7 + 1 := by unfold wk; rw [hth]
  obtain ⟨j0, q5, q6⟩ := dwhile_inv (ft := t__law_week_1) (fb := w__law_week_1) (st := st) (env := [some (.tup [.int y, .int m, .int d]), some (.int n), some (.int w), some (.lst ((rng 0 7).map fun k => datD (a + k))), none, some (.int (wy n)), none, none, some (.int a), some (.int 0)])
    (fun j : Int => [some (.tup [.int y, .int m, .int d]), some (.int n), some (.int w), some (.lst ((rng 0 7).map fun k => datD (a + k))), none, some (.int (wy n)), none, none, some (.int (a - 7 * j)), some (.int j)]) (fun j => 0 ≤ j ∧ j ≤ wk n) (fun j => (wk n - j).toNat) (fun j => j = wk n) 0 (by simp) ⟨by omega, by omega⟩ (by omega) (fun j hj => by
      have hs : mid (a - 7 * j) := by unfold mid at hn ⊢; omega
      have q7 := lcF (gt := dgName 4) (ft := (dAnd (dB (dBin aGe (dVar 8) (dC (.int 1)))) (dB (dBin aEq (dBin aIx (dCall f_date_of (dCons (dBin (aAdd false) (dVar 8) (dVar 4)) (dNil))) (dC (.int 0))) (dVar 5))))) (fe := y__law_week_4) (env := [some (.tup [.int y, .int m, .int d]), some (.int n), some (.int w), some (.lst ((rng 0 7).map fun k => datD (a + k))), none, some (.int (wy n)), none, none, some (.int (a - 7 * j)), some (.int j)]) (st := st)
        .int (fun k => .int 1) (fun k => [some (.tup [.int y, .int m, .int d]), some (.int n), some (.int w), some (.lst ((rng 0 7).map fun k => datD (a + k))), some (.int k), some (.int (wy n)), none, none, some (.int (a - 7 * j)), some (.int j)]) (fun k => decide (yr (a - 7 * j + k) = wy n)) (rng 0 7) (fun k hk => by
        have := rng_mem hk
        have e2 := fun st => e_date2 (mid_ok (k := k) hs (by omega) (by omega)) st
        have h1 : 1 ≤ a - 7 * j := by unfold mid at hs; omega
        refine ⟨rfl, ?_, fun _ => ?_⟩
        · simp [aLeT, dSeq, dIfS, dNot, dB, dChain, dC, dVar, dRet, dRetN, dNext, dAndV, dOrV, dNotV, dAnd, dOr, dIf, dTru, truD, dBin, dCons, dNil, dTup, dLst, mkL, dCall, dAsg, dAug, dPar, dgName, dgTup, dgCons, dgNil, dDrop, R.bind, R.s, R.b, aLe, aLt, aGt, aGe, aSub, aAdd, aMul, aFdiv, aMod, aEq, aNe, aIsN, aNotN, D.isNon, aAddI, aIx, L2.atI, L2.ixN, beqi, seqA, seqL, seqR, okEq, norm, D.isSc, D.isStr, D.dat, D.dats, D.dep, D.deps, D.eqv, D.eqvs, dRaise, dNeg, bSum, bAbs, bInt, bMax2, bMin2, bLen, intsD, dSl, aSl, dP, dNoP, okMul, fm, fd, e2, h1, datD]
        · unfold y__law_week_4
          simp [aLeT, dSeq, dIfS, dNot, dB, dChain, dC, dVar, dRet, dRetN, dNext, dAndV, dOrV, dNotV, dAnd, dOr, dIf, dTru, truD, dBin, dCons, dNil, dTup, dLst, mkL, dCall, dAsg, dAug, dPar, dgName, dgTup, dgCons, dgNil, dDrop, R.bind, R.s, R.b, aLe, aLt, aGt, aGe, aSub, aAdd, aMul, aFdiv, aMod, aEq, aNe, aIsN, aNotN, D.isNon, aAddI, aIx, L2.atI, L2.ixN, beqi, seqA, seqL, seqR, okEq, norm, D.isSc, D.isStr, D.dat, D.dats, D.dep, D.deps, D.eqv, D.eqvs, dRaise, dNeg, bSum, bAbs, bInt, bMax2, bMin2, bLen, intsD, dSl, aSl, dP, dNoP, okMul, fm, fd])
      have hy := yrs (a := a - 7 * j) (Y := wy n) hs
      have hi := yr_iff (n := a - 7 * j + 3) (Y := wy n) (mid_ok hs (by decide) (by decide))
      have q7 : lcD _ _ _ none ((rng 0 7).map .int) _ _ = _ := q7
      have r7 : rangeD 0 7 = (rng 0 7).map .int := rngD 0 7
      have b7 : bnd 7 = true := by decide
      by_cases c : j = wk n
      · left
        refine ⟨?_, c⟩
        have hno : ¬ yr (a - 7 * j + 3) = wy n := fun z => by
          have := hi.mp z
          omega
        have hlen := mt hy.mp hno
        unfold t__law_week_1
        simp [aLeT, dSeq, dIfS, dNot, dB, dChain, dC, dVar, dRet, dRetN, dNext, dAndV, dOrV, dNotV, dAnd, dOr, dIf, dTru, truD, dBin, dCons, dNil, dTup, dLst, mkL, dCall, dAsg, dAug, dPar, dgName, dgTup, dgCons, dgNil, dDrop, R.bind, R.s, R.b, aLe, aLt, aGt, aGe, aSub, aAdd, aMul, aFdiv, aMod, aEq, aNe, aIsN, aNotN, D.isNon, aAddI, aIx, L2.atI, L2.ixN, beqi, seqA, seqL, seqR, okEq, norm, D.isSc, D.isStr, D.dat, D.dats, D.dep, D.deps, D.eqv, D.eqvs, dRaise, dNeg, bSum, bAbs, bInt, bMax2, bMin2, bLen, intsD, dSl, aSl, dP, dNoP, okMul, fm, fd, dLc, dRng1, b7, r7, wipeE, rng_len, q7]
        omega
      · right
        have hyes : yr (a - 7 * j + 3) = wy n := hi.mpr (by omega)
        have hlen := hy.mpr hyes
        refine ⟨?_, j + 1, ?_, ⟨by omega, by omega⟩, by omega⟩
        · unfold t__law_week_1
          simp [aLeT, dSeq, dIfS, dNot, dB, dChain, dC, dVar, dRet, dRetN, dNext, dAndV, dOrV, dNotV, dAnd, dOr, dIf, dTru, truD, dBin, dCons, dNil, dTup, dLst, mkL, dCall, dAsg, dAug, dPar, dgName, dgTup, dgCons, dgNil, dDrop, R.bind, R.s, R.b, aLe, aLt, aGt, aGe, aSub, aAdd, aMul, aFdiv, aMod, aEq, aNe, aIsN, aNotN, D.isNon, aAddI, aIx, L2.atI, L2.ixN, beqi, seqA, seqL, seqR, okEq, norm, D.isSc, D.isStr, D.dat, D.dats, D.dep, D.deps, D.eqv, D.eqvs, dRaise, dNeg, bSum, bAbs, bInt, bMax2, bMin2, bLen, intsD, dSl, aSl, dP, dNoP, okMul, fm, fd, dLc, dRng1, b7, r7, wipeE, rng_len, q7]
          omega
        · unfold w__law_week_1
          have : a - 7 * j - 7 = a - 7 * (j + 1) := by omega
          simp [aLeT, dSeq, dIfS, dNot, dB, dChain, dC, dVar, dRet, dRetN, dNext, dAndV, dOrV, dNotV, dAnd, dOr, dIf, dTru, truD, dBin, dCons, dNil, dTup, dLst, mkL, dCall, dAsg, dAug, dPar, dgName, dgTup, dgCons, dgNil, dDrop, R.bind, R.s, R.b, aLe, aLt, aGt, aGe, aSub, aAdd, aMul, aFdiv, aMod, aEq, aNe, aIsN, aNotN, D.isNon, aAddI, aIx, L2.atI, L2.ixN, beqi, seqA, seqL, seqR, okEq, norm, D.isSc, D.isStr, D.dat, D.dats, D.dep, D.deps, D.eqv, D.eqvs, dRaise, dNeg, bSum, bAbs, bInt, bMax2, bMin2, bLen, intsD, dSl, aSl, dP, dNoP, okMul, fm, fd, this])
  subst q6
  have r7 : rangeD 0 7 = (rng 0 7).map .int := rngD 0 7
  have b7 : bnd 7 = true := by decide
  have h6 : n - w = a := by omega
  unfold f__law_week b__law_week runB
  simp [aLeT, dSeq, dIfS, dNot, dB, dChain, dC, dVar, dRet, dRetN, dNext, dAndV, dOrV, dNotV, dAnd, dOr, dIf, dTru, truD, dBin, dCons, dNil, dTup, dLst, mkL, dCall, dAsg, dAug, dPar, dgName, dgTup, dgCons, dgNil, dDrop, R.bind, R.s, R.b, aLe, aLt, aGt, aGe, aSub, aAdd, aMul, aFdiv, aMod, aEq, aNe, aIsN, aNotN, D.isNon, aAddI, aIx, L2.ixN, beqi, seqA, seqL, seqR, okEq, norm, D.isSc, D.isStr, D.dat, D.dats, D.dep, D.deps, D.eqv, D.eqvs, dRaise, dNeg, bSum, bAbs, bInt, bMax2, bMin2, bLen, intsD, dSl, aSl, dP, dNoP, okMul, fm, fd, e1, fm7, h7, h6, dLc, dRng1, b7, r7, wipeE, rng_len, q1, dIt, gdOf, q2, q4, atI0, q5]
end K02

namespace K02
open PySem G
def S (f L : Int) : List Int := (rng 1 L.toNat).filter fun t => decide ((t - f) % 7 = 0)
theorem m28 {L : Int} (h1 : 28 ≤ L) (h2 : L ≤ 31) : L = 28 ∨ L = 29 ∨ L = 30 ∨ L = 31 := by omega
theorem m7 {f : Int} (h1 : 1 ≤ f) (h2 : f ≤ 7) : f = 1 ∨ f = 2 ∨ f = 3 ∨ f = 4 ∨ f = 5 ∨ f = 6 ∨ f = 7 := by omega
theorem e_rng3 {f L : Int} (h1 : 1 ≤ f) (h2 : f ≤ 7) (h3 : 28 ≤ L) (h4 : L ≤ 31) (st : Store) : rng3 (.int f) (.int (L + 1)) (.int 7) st = .ok ((S f L).map .int) st := by
  rcases m7 h1 h2 with rfl | rfl | rfl | rfl | rfl | rfl | rfl <;> rcases m28 h3 h4 with rfl | rfl | rfl | rfl <;> rfl
theorem atI_map {α β : Type} (f : α → β) (l : List α) (i : Int) : L2.atI (l.map f) i = (L2.atI l i).map f := by
  unfold L2.atI
  rw [List.length_map]
  cases L2.ixN l.length i with
  | none => rfl
  | some j =>
    show (l.map f)[j]? = (l[j]?).map f
    rw [List.getElem?_map]
theorem atI_some {α : Type} (l : List α) (i : Int) (h : -(l.length : Int) ≤ i ∧ i < l.length) : ∃ x, L2.atI l i = some x := by
  unfold L2.atI L2.ixN
  split
  · rw [if_pos h.2]
    exact ⟨_, List.getElem?_eq_getElem (by omega)⟩
  · rw [if_pos h.1]
    exact ⟨_, List.getElem?_eq_getElem (by omega)⟩
/-- the first of a weekday in a month -/
def fst7 (J w : Int) : Int := 1 + (w - J) % 7
theorem num_day (y m t : Int) : num y m t = num y m 1 - 1 + t := by unfold num; omega
theorem v_first {y m : Int} (h : YM y m) : Val y m 1 := ⟨h, by decide, by have := dim_pos (y := y) (m := m) h.2.1 h.2.2; omega⟩
theorem e_wfirst {y m : Int} (h : YM y m) (st : Store) : f_weekday_of [.int (num y m 1)] st = .ok (.int ((num y m 1 - 1) % 7)) st := e_weekday _ st (num_bd (v_first h))
theorem e_nth {y m p w : Int} (h : YM y m) (hw : 0 ≤ w ∧ w ≤ 6) (st : Store) : f_nth_weekday [.int y, .int m, .int p, .int w] st =
    if p = 0 ∨ (if p < 0 then -p else p) > (S (fst7 (num y m 1 - 1) w) (dim y m)).length then .ex "WeekError" st
    else match L2.atI (S (fst7 (num y m 1 - 1) w) (dim y m)) (if p > 0 then p - 1 else p) with
      | some t => .ok (.tup [.int y, .int m, .int t]) st
      | none => .bad := by
  have e1 := fun st => (e_cweekday w st).trans (if_pos hw)
  have e2 := fun st => (e_dim y m st).trans (if_pos h)
  have e3 := fun st => e_num' (v_first h) st
  have e4 := fun st => e_wfirst h st
  obtain ⟨f, hf⟩ : ∃ f, f = fst7 (num y m 1 - 1) w := ⟨_, rfl⟩
  have hf1 : 1 ≤ f ∧ f ≤ 7 := by rw [hf]; unfold fst7; omega
  have hf2 : 1 + (w - (num y m 1 - 1)) % 7 = f := hf.symm
  have hd := dim_pos (y := y) (m := m) h.2.1 h.2.2
  have e5 := fun st => e_rng3 hf1.1 hf1.2 hd.1 hd.2 st
  rw [← hf]
  generalize S f (dim y m) = l at e5 ⊢
  unfold f_nth_weekday b_nth_weekday runB
  by_cases c1 : p = 0
  · subst c1
    simp [aLeT, dSeq, dIfS, dNot, dB, dChain, dC, dVar, dRet, dRetN, dNext, dAndV, dOrV, dNotV, dAnd, dOr, dIf, dTru, truD, dBin, dCons, dNil, dTup, dLst, mkL, dCall, dAsg, dAug, dPar, dgName, dgTup, dgCons, dgNil, dDrop, R.bind, R.s, R.b, aLe, aLt, aGt, aGe, aSub, aAdd, aMul, aFdiv, aMod, aEq, aNe, aIsN, aNotN, D.isNon, aAddI, aIx, L2.ixN, beqi, seqA, seqL, seqR, okEq, norm, D.isSc, D.isStr, D.dat, D.dats, D.dep, D.deps, D.eqv, D.eqvs, dRaise, dNeg, bSum, bAbs, bInt, bMax2, bMin2, bLen, intsD, dSl, aSl, dP, dNoP, okMul, fm, fd, e1, e2, e3, e4, fm7, hf2, dListR3, e5]
  · by_cases c2 : (if p < 0 then -p else p) > (l.length : Int)
    · rw [if_pos (.inr c2)]
      simp [aLeT, dSeq, dIfS, dNot, dB, dChain, dC, dVar, dRet, dRetN, dNext, dAndV, dOrV, dNotV, dAnd, dOr, dIf, dTru, truD, dBin, dCons, dNil, dTup, dLst, mkL, dCall, dAsg, dAug, dPar, dgName, dgTup, dgCons, dgNil, dDrop, R.bind, R.s, R.b, aLe, aLt, aGt, aGe, aSub, aAdd, aMul, aFdiv, aMod, aEq, aNe, aIsN, aNotN, D.isNon, aAddI, aIx, L2.ixN, beqi, seqA, seqL, seqR, okEq, norm, D.isSc, D.isStr, D.dat, D.dats, D.dep, D.deps, D.eqv, D.eqvs, dRaise, dNeg, bSum, bAbs, bInt, bMax2, bMin2, bLen, intsD, dSl, aSl, dP, dNoP, okMul, fm, fd, e1, e2, e3, e4, fm7, hf2, dListR3, e5, c1, c2]
    · rw [if_neg (fun z => z.elim c1 c2)]
      by_cases c3 : 0 < p
      · have c2' : ¬ (l.length : Int) < if p < 0 then -p else p := c2
        simp [aLeT, dSeq, dIfS, dNot, dB, dChain, dC, dVar, dRet, dRetN, dNext, dAndV, dOrV, dNotV, dAnd, dOr, dIf, dTru, truD, dBin, dCons, dNil, dTup, dLst, mkL, dCall, dAsg, dAug, dPar, dgName, dgTup, dgCons, dgNil, dDrop, R.bind, R.s, R.b, aLe, aLt, aGt, aGe, aSub, aAdd, aMul, aFdiv, aMod, aEq, aNe, aIsN, aNotN, D.isNon, aAddI, aIx, L2.ixN, beqi, seqA, seqL, seqR, okEq, norm, D.isSc, D.isStr, D.dat, D.dats, D.dep, D.deps, D.eqv, D.eqvs, dRaise, dNeg, bSum, bAbs, bInt, bMax2, bMin2, bLen, intsD, dSl, aSl, dP, dNoP, okMul, fm, fd, e1, e2, e3, e4, fm7, hf2, dListR3, e5, c1, c2', c3, atI_map]
        cases L2.atI l (p - 1) <;> simp
      · have c2' : ¬ (l.length : Int) < if p < 0 then -p else p := c2
        simp [aLeT, dSeq, dIfS, dNot, dB, dChain, dC, dVar, dRet, dRetN, dNext, dAndV, dOrV, dNotV, dAnd, dOr, dIf, dTru, truD, dBin, dCons, dNil, dTup, dLst, mkL, dCall, dAsg, dAug, dPar, dgName, dgTup, dgCons, dgNil, dDrop, R.bind, R.s, R.b, aLe, aLt, aGt, aGe, aSub, aAdd, aMul, aFdiv, aMod, aEq, aNe, aIsN, aNotN, D.isNon, aAddI, aIx, L2.ixN, beqi, seqA, seqL, seqR, okEq, norm, D.isSc, D.isStr, D.dat, D.dats, D.dep, D.deps, D.eqv, D.eqvs, dRaise, dNeg, bSum, bAbs, bInt, bMax2, bMin2, bLen, intsD, dSl, aSl, dP, dNoP, okMul, fm, fd, e1, e2, e3, e4, fm7, hf2, dListR3, e5, c1, c2', c3, atI_map]
        cases L2.atI l p <;> simp
theorem e_behind {y m d w : Int} (h : Val y m d) (hw : 0 ≤ w ∧ w ≤ 6) (st : Store) : f_on_or_behind [.tup [.int y, .int m, .int d], .int w] st = f_date_of [.int (num y m d + (w - (num y m d - 1) % 7) % 7)] st := by
  have e1 := fun st => (e_cweekday w st).trans (if_pos hw)
  have e2 := fun st => e_num' h st
  have e3 := fun st => e_weekday _ st (num_bd h)
  unfold f_on_or_behind b_on_or_behind runB
  simp [aLeT, dSeq, dIfS, dNot, dB, dChain, dC, dVar, dRet, dRetN, dNext, dAndV, dOrV, dNotV, dAnd, dOr, dIf, dTru, truD, dBin, dCons, dNil, dTup, dLst, mkL, dCall, dAsg, dAug, dPar, dgName, dgTup, dgCons, dgNil, dDrop, R.bind, R.s, R.b, aLe, aLt, aGt, aGe, aSub, aAdd, aMul, aFdiv, aMod, aEq, aNe, aIsN, aNotN, D.isNon, aAddI, aIx, L2.atI, L2.ixN, beqi, seqA, seqL, seqR, okEq, norm, D.isSc, D.isStr, D.dat, D.dats, D.dep, D.deps, D.eqv, D.eqvs, dRaise, dNeg, bSum, bAbs, bInt, bMax2, bMin2, bLen, intsD, dSl, aSl, dP, dNoP, okMul, fm, fd, e1, e2, e3, fm7]
  generalize f_date_of _ st = r
  cases r <;> rfl
theorem e_ahead {y m d w : Int} (h : Val y m d) (hw : 0 ≤ w ∧ w ≤ 6) (st : Store) : f_on_or_ahead [.tup [.int y, .int m, .int d], .int w] st = f_date_of [.int (num y m d - ((num y m d - 1) % 7 - w) % 7)] st := by
  have e1 := fun st => (e_cweekday w st).trans (if_pos hw)
  have e2 := fun st => e_num' h st
  have e3 := fun st => e_weekday _ st (num_bd h)
  unfold f_on_or_ahead b_on_or_ahead runB
  simp [aLeT, dSeq, dIfS, dNot, dB, dChain, dC, dVar, dRet, dRetN, dNext, dAndV, dOrV, dNotV, dAnd, dOr, dIf, dTru, truD, dBin, dCons, dNil, dTup, dLst, mkL, dCall, dAsg, dAug, dPar, dgName, dgTup, dgCons, dgNil, dDrop, R.bind, R.s, R.b, aLe, aLt, aGt, aGe, aSub, aAdd, aMul, aFdiv, aMod, aEq, aNe, aIsN, aNotN, D.isNon, aAddI, aIx, L2.atI, L2.ixN, beqi, seqA, seqL, seqR, okEq, norm, D.isSc, D.isStr, D.dat, D.dats, D.dep, D.deps, D.eqv, D.eqvs, dRaise, dNeg, bSum, bAbs, bInt, bMax2, bMin2, bLen, intsD, dSl, aSl, dP, dNoP, okMul, fm, fd, e1, e2, e3, fm7]
  generalize f_date_of _ st = r
  cases r <;> rfl
/-- the first of seven on a weekday -/
theorem first7 {N w : Int} (hw : 0 ≤ w ∧ w ≤ 6) : ∃ l, (rng N 7).filter (fun k => decide ((k + 6) % 7 = w)) = (N + (w - (N - 1) % 7) % 7) :: l := by
  have e : rng N 7 = [N, N + 1, N + 2, N + 3, N + 4, N + 5, N + 6] := by simp [rng, List.range, List.range.loop]
  rw [e]
  obtain ⟨r, hr⟩ : ∃ r, r = (w - (N - 1) % 7) % 7 := ⟨_, rfl⟩
  rw [← hr]
  have h : r = 0 ∨ r = 1 ∨ r = 2 ∨ r = 3 ∨ r = 4 ∨ r = 5 ∨ r = 6 := by omega
  have c0 : decide ((N + 6) % 7 = w) = decide (r = 0) := decide_eq_decide.mpr (by omega)
  have c1 : decide ((N + 1 + 6) % 7 = w) = decide (r = 1) := decide_eq_decide.mpr (by omega)
  have c2 : decide ((N + 2 + 6) % 7 = w) = decide (r = 2) := decide_eq_decide.mpr (by omega)
  have c3 : decide ((N + 3 + 6) % 7 = w) = decide (r = 3) := decide_eq_decide.mpr (by omega)
  have c4 : decide ((N + 4 + 6) % 7 = w) = decide (r = 4) := decide_eq_decide.mpr (by omega)
  have c5 : decide ((N + 5 + 6) % 7 = w) = decide (r = 5) := decide_eq_decide.mpr (by omega)
  have c6 : decide ((N + 6 + 6) % 7 = w) = decide (r = 6) := decide_eq_decide.mpr (by omega)
  simp only [List.filter, c0, c1, c2, c3, c4, c5, c6]
  rcases h with rfl | rfl | rfl | rfl | rfl | rfl | rfl <;> simp
/-- the weekdays of a month -/
theorem same_ok {J w : Int} (hw : 0 ≤ w ∧ w ≤ 6) (L : Int) : (rng 1 L.toNat).filter (fun t => decide ((J + t + 6) % 7 = w)) = S (fst7 J w) L := by
  unfold S fst7
  exact List.filter_congr fun t _ => decide_eq_decide.mpr (by omega)
end K02

namespace K02
open PySem G
theorem lstAt_end (st : Store) (L : List D) : lstAt (st ++ [.lst L]) st.length = some L := by
  unfold lstAt
  simp
theorem set_end {α : Type} : ∀ (st : List α) (a b : α), (st ++ [a]).set st.length b = st ++ [b]
  | [], _, _ => rfl
  | x :: st, a, b => by simp
theorem n28 {n : Nat} (h1 : 28 ≤ n) (h2 : n ≤ 31) : n = 28 ∨ n = 29 ∨ n = 30 ∨ n = 31 := by omega
theorem e_rng1 {n : Nat} (h1 : 28 ≤ n) (h2 : n ≤ 31) (st : Store) : rng3 (.int 1) (.int ((n : Int) + 1)) (.int 1) st = .ok ((rng 1 n).map .int) st := by
  rcases n28 h1 h2 with rfl | rfl | rfl | rfl <;> rfl
def P7 (q : Nat) : List Int := (List.range q).map fun j : Nat => 7 * (j : Int)
theorem e_rng7 {q : Nat} (h1 : 4 ≤ q) (h2 : q ≤ 6) (st : Store) : rng3 (.int 0) (.int (7 * (q : Int))) (.int 7) st = .ok ((P7 q).map .int) st := by
  have : q = 4 ∨ q = 5 ∨ q = 6 := by omega
  rcases this with rfl | rfl | rfl <;> rfl
def cutI (xs : List Int) (lo hi : Int) : List Int := (xs.drop (HT.sIx xs.length 0 (some lo))).take (HT.sIx xs.length xs.length (some hi) - HT.sIx xs.length 0 (some lo))
theorem cut_map (xs : List Int) (lo hi : Int) : cutD (xs.map .int) (some lo) (some hi) = (cutI xs lo hi).map .int := by
  unfold cutD cutI
  rw [List.length_map, List.map_take, List.map_drop]
def tail7 (k n : Nat) : Nat := ((0 - ((k : Int) + n)) % 7).toNat
def cellsI (k n : Nat) : List Int := List.replicate k 0 ++ rng 1 n ++ List.replicate (tail7 k n) 0
def rowsI (k n : Nat) : List (List Int) := (P7 ((k + n + tail7 k n) / 7)).map fun p => cutI (cellsI k n) p (p + 7)
def rowsD (k n : Nat) : List D := (rowsI k n).map fun r => .tup (r.map .int)
theorem cls_rows (n : Nat) : ∀ l : List (List Int), D.cls n (l.map fun r => .tup (r.map .int)) = true
  | [] => rfl
  | r :: l => by
    have one : ∀ r : List Int, D.cls n (r.map .int) = true := fun r => by
      induction r with
      | nil => rfl
      | cons i r ih => exact ih
    show (D.cls n (r.map .int) && D.cls n (l.map fun r => .tup (r.map .int))) = true
    rw [one, cls_rows n l]
    rfl
theorem addI (i j : Int) (st : Store) : aAdd false (.int i) (.int j) st = .ok (.int (i + j)) st := rfl
theorem tupG_ok {fi : DI} {gt : DG} {ft : DT} {fe : DE} {vs : List Nat} {env : G.Env} {st : Store} {ds out : List D} (h1 : fi env st = .ok (ds, none) st) (h2 : ds.length ≤ 16777216) (h3 : lcD gt ft fe none ds (wipeE env vs) st = .ok out st) (h4 : out.length ≤ 16777216) : dTupG (dGx fi gt ft fe vs) env st = .ok (.tup out) st := by
  unfold dTupG dGx
  rw [h1]
  show ((if ds.length ≤ 16777216 then lcD gt ft fe none ds (wipeE env vs) st else R.bad).b fun xs st => if xs.length ≤ 16777216 then R.ok (D.tup xs) st else .bad) = _
  rw [if_pos h2, h3]
  show (if out.length ≤ 16777216 then R.ok (D.tup out) st else .bad) = _
  rw [if_pos h4]
theorem rows7 {Y M Wd N K Rf : D} {st : Store} {ds out : List D} {len : Int} (h6 : bLen [Rf] st = .ok (.int len) st) (h7 : rng3 (.int 0) (.int len) (.int 7) st = .ok ds st) (h2 : ds.length ≤ 16777216) (h4 : out.length ≤ 16777216)
    (h3 : lcD (dgName 6) dYes y_month_rows_1 none ds [some Y, some M, some Wd, some N, some K, some Rf, none] st = .ok out st) :
    dTupG (dGx (dRng3 (dC (.int 0)) (dCall bLen (dCons (dVar 5) (dNil))) (dC (.int 7))) (dgName 6) (dYes) y_month_rows_1 [6]) [some Y, some M, some Wd, some N, some K, some Rf, none] st = .ok (.tup out) st := by
  refine tupG_ok (ds := ds) ?_ h2 h3 h4
  simp [aLeT, dSeq, dIfS, dNot, dB, dChain, dC, dVar, dRet, dRetN, dNext, dAndV, dOrV, dNotV, dAnd, dOr, dIf, dTru, truD, dBin, dCons, dNil, dTup, dLst, mkL, dCall, dAsg, dAug, dPar, dgName, dgTup, dgCons, dgNil, dDrop, R.bind, R.s, R.b, aLe, aLt, aGt, aGe, aSub, aFdiv, aMod, aEq, aNe, aIsN, aNotN, D.isNon, aAddI, aIx, L2.atI, L2.ixN, beqi, seqA, seqL, seqR, okEq, norm, D.isSc, D.isStr, D.dat, D.dats, D.dep, D.deps, D.eqv, D.eqvs, dRaise, dNeg, bSum, bAbs, bInt, bMax2, bMin2, intsD, dSl, aSl, dP, dNoP, okMul, fm, fd, dRng3, h6, h7]
theorem rows_body {y m w n N wd k t len : Int} {A1 A2 Rf : D} {l1 : List D} {out : D} {st st2 st3 : Store} (e1 : f_check_weekday [.int w] st = .ok .non st) (e2 : f_days_in_month [.int y, .int m] st = .ok (.int n) st)
    (e3 : f_day_number [.tup [.int y, .int m, .int 1]] st = .ok (.int N) st) (e4 : f_weekday_of [.int N] st = .ok (.int wd) st) (hk : (wd - w) % 7 = k) (m1 : aMul false (.lst [.int 0]) (.int k) st = .ok A1 st)
    (e5 : rng3 (.int 1) (.int (n + 1)) (.int 1) st = .ok l1 st) (m3 : aAdd true A1 (.lst l1) st = .ok Rf st2) (m4 : bLen [Rf] st2 = .ok (.int len) st2) (ht : -len % 7 = t) (m2 : aMul false (.lst [.int 0]) (.int t) st2 = .ok A2 st2)
    (m5 : aExt Rf A2 st2 = .ok Rf st3) (m7 : dTupG (dGx (dRng3 (dC (.int 0)) (dCall bLen (dCons (dVar 5) (dNil))) (dC (.int 7))) (dgName 6) (dYes) y_month_rows_1 [6]) [some (.int y), some (.int m), some (.int w), some (.int n), some (.int k), some Rf, none] st3 = .ok out st3) :
    b_month_rows [some (.int y), some (.int m), some (.int w), none, none, none, none] st = .rt out st3 := by
  unfold b_month_rows
  simp [aLeT, dSeq, dIfS, dNot, dB, dChain, dC, dVar, dRet, dRetN, dNext, dAndV, dOrV, dNotV, dAnd, dOr, dIf, dTru, truD, dBin, dCons, dNil, dTup, dLst, mkL, dCall, dAsg, dAug, dPar, dgName, dgTup, dgCons, dgNil, dDrop, R.bind, R.s, R.b, aLe, aLt, aGt, aGe, aSub, aFdiv, aMod, aEq, aNe, aIsN, aNotN, D.isNon, aAddI, aIx, L2.atI, L2.ixN, beqi, seqA, seqL, seqR, okEq, norm, D.isSc, D.isStr, D.dat, D.dats, D.dep, D.deps, D.eqv, D.eqvs, dRaise, dNeg, bSum, bAbs, bInt, bMax2, bMin2, intsD, dSl, aSl, dP, dNoP, okMul, fm, fd, e1, e2, e3, e4, addI, hk, m1, dListR2, e5, m3, m4, ht, m2, m5, m7]
theorem e_rows {y m w : Int} (h : YM y m) (hw : 0 ≤ w ∧ w ≤ 6) {st : Store} (hst : stCl st.length st = true) {k n : Nat} (hk : (num y m 1 - 1 - w) % 7 = (k : Int)) (hn : dim y m = (n : Int)) :
    f_month_rows [.int y, .int m, .int w] st = .ok (.tup (rowsD k n)) st := by
  have e1 := fun st => (e_cweekday w st).trans (if_pos hw)
  have e2 := fun st => (e_dim y m st).trans (if_pos h)
  have e3 := fun st => e_num' (v_first h) st
  have e4 := fun st => e_wfirst h st
  have hd := dim_pos (y := y) (m := m) h.2.1 h.2.2
  have hk2 : k ≤ 6 := by omega
  rw [hn] at hd e2
  have hn1 : 28 ≤ n := by omega
  have hn2 : n ≤ 31 := by omega
  have e5 := fun st => e_rng1 hn1 hn2 st
  have ht : (0 - ((k : Int) + n)) % 7 = (tail7 k n : Nat) := by unfold tail7; omega
  have ht1 : (0 - ((k : Int) + (n : Int))).fmod 7 = (tail7 k n : Nat) := by rw [fm7]; exact ht
  have ht3 : -((k : Int) + (n : Int)) % 7 = (tail7 k n : Nat) := by rw [← ht, Int.zero_sub]
  have ht2 : tail7 k n ≤ 6 := by omega
  obtain ⟨q, hq⟩ : ∃ q, k + n + tail7 k n = 7 * q := ⟨(k + n + tail7 k n) / 7, by omega⟩
  have hq1 : 4 ≤ q := by omega
  have hq2 : q ≤ 6 := by omega
  have hq3 : q ≤ 16777216 := by omega
  have e6 := fun st => e_rng7 hq1 hq2 st
  have hk1 : (num y m 1 - 1 - w).fmod 7 = (k : Int) := by rw [fm7]; exact hk
  have hk0 : ((num y m 1 - 1) % 7 - w) % 7 = (k : Int) := by omega
  obtain ⟨C, hC⟩ : ∃ C, C = cellsI k n := ⟨_, rfl⟩
  have hCl : C.length = 7 * q := by rw [hC]; unfold cellsI; simp [rng_len]; omega
  have hz : ∀ j : Nat, (List.replicate j [D.int 0]).flatten = (List.replicate j (0 : Int)).map D.int := fun j => by
    rw [List.flatten_replicate_singleton, List.map_replicate]
  have q1 := lcM (gt := dgName 6) (fe := y_month_rows_1) (env := [some (.int y), some (.int m), some (.int w), some (.int n), some (.int k), some (.ref st.length), none]) (st := st ++ [.lst (C.map .int)]) .int (fun p => .tup ((cutI C p (p + 7)).map .int)) (fun p => [some (.int y), some (.int m), some (.int w), some (.int n), some (.int k), some (.ref st.length), some (.int p)]) (P7 q) (fun p hp => by
    refine ⟨rfl, ?_⟩
    unfold y_month_rows_1
    simp [aLeT, dSeq, dIfS, dNot, dB, dChain, dC, dVar, dRet, dRetN, dNext, dAndV, dOrV, dNotV, dAnd, dOr, dIf, dTru, truD, dBin, dCons, dNil, dTup, dLst, mkL, dCall, dAsg, dAug, dPar, dgName, dgTup, dgCons, dgNil, dDrop, R.bind, R.s, R.b, aLe, aLt, aGt, aGe, aSub, aAdd, aMul, aFdiv, aMod, aEq, aNe, aIsN, aNotN, D.isNon, aAddI, aIx, L2.atI, L2.ixN, beqi, seqA, seqL, seqR, okEq, norm, D.isSc, D.isStr, D.dat, D.dats, D.dep, D.deps, D.eqv, D.eqvs, dRaise, dNeg, bSum, bAbs, bInt, bMax2, bMin2, bLen, intsD, dSl, aSl, dP, dNoP, okMul, fm, fd, seqL, lstAt_end, cut_map, bTuple])
  have hr : (P7 q).map (fun p => D.tup ((cutI C p (p + 7)).map .int)) = rowsD k n := by
    unfold rowsD rowsI
    rw [List.map_map, hC, hq, Nat.mul_div_cancel_left _ (by decide)]
    rfl
  rw [hr] at q1
  have hpl : (P7 q).length = q := by simp [P7]
  have m1 : aMul false (.lst [.int 0]) (.int (k : Int)) = fun st => .ok (.lst (List.replicate k (.int 0))) st := by
    funext st
    have a1 : -9223372036854775808 ≤ (k : Int) := by omega
    have a2 : (k : Int) < 9223372036854775808 := by omega
    have a3 : k ≤ 16777216 := by omega
    simp [aMul, mkL, a1, a2, a3]
  have m2 : aMul false (.lst [.int 0]) (.int (tail7 k n : Nat)) = fun st => .ok (.lst (List.replicate (tail7 k n) (.int 0))) st := by
    funext st
    have a1 : -9223372036854775808 ≤ (tail7 k n : Int) := by omega
    have a2 : (tail7 k n : Int) < 9223372036854775808 := by omega
    have a3 : tail7 k n ≤ 16777216 := by omega
    simp [aMul, mkL, a1, a2, a3]
  obtain ⟨A, hA⟩ : ∃ A : List D, A = (List.replicate k (0 : Int) ++ rng 1 n).map .int := ⟨_, rfl⟩
  have hAl : A.length = k + n := by rw [hA]; simp [rng_len]
  have m3 : aAdd true (.lst (List.replicate k (.int 0))) (.lst ((rng 1 n).map .int)) st = .ok (.ref st.length) (st ++ [.lst A]) := by
    have a3 : k + n ≤ 16777216 := by omega
    rw [hA]
    simp [aAdd, seqR, mkL, rng_len, a3]
  have m4 : bLen [.ref st.length] (st ++ [.lst A]) = .ok (.int ((k : Int) + n)) (st ++ [.lst A]) := by
    simp [bLen, seqA, seqL, lstAt_end, hAl]
  have m5 : aExt (.ref st.length) (.lst (List.replicate (tail7 k n) (.int 0))) (st ++ [.lst A]) = .ok (.ref st.length) (st ++ [.lst (C.map .int)]) := by
    have a3 : k + n + tail7 k n ≤ 16777216 := by omega
    have a4 : C.map D.int = A ++ List.replicate (tail7 k n) (.int 0) := by
      rw [hC, hA]; unfold cellsI; simp
    rw [a4]
    simp only [aExt, lstAt_end, seqR, set_end, List.length_append, List.length_replicate, hAl, a3, if_true]
  have m6 : bLen [.ref st.length] (st ++ [.lst (C.map .int)]) = .ok (.int (7 * (q : Int))) (st ++ [.lst (C.map .int)]) := by
    simp [bLen, seqA, seqL, lstAt_end, hCl]
  have cl := cls_rows st.length (rowsI k n)
  have cl : D.cls st.length (rowsD k n) = true := cl
  have hrl : (rowsD k n).length ≤ 16777216 := by unfold rowsD rowsI; rw [hq]; simp [P7]; omega
  have m7 := rows7 (Y := .int y) (M := .int m) (Wd := .int w) (N := .int n) (K := .int k) (Rf := .ref st.length) m6 (e6 _) (by rw [List.length_map, hpl]; exact hq3) hrl q1
  have b1 : b_month_rows [some (.int y), some (.int m), some (.int w), none, none, none, none] st = .rt (.tup (rowsD k n)) (st ++ [.lst (C.map .int)]) :=
    rows_body (e1 st) (e2 st) (e3 st) (e4 st) hk0 (congrFun m1 st) (e5 st) m3 m4 ht3 (congrFun m2 _) m5 m7
  unfold f_month_rows trim runB
  simp [b1, G.letGo, D.cl, cl, hst, List.replicate]
end K02

namespace K02
open PySem G
def enI : Nat → List Int → List (Nat × Int)
  | _, [] => []
  | i, c :: l => (i, c) :: enI (i + 1) l
theorem enum_map : ∀ (l : List Int) (i : Nat), enumD i (l.map .int) = (enI i l).map fun p => .tup [.int (p.1 : Nat), .int p.2]
  | [], _ => rfl
  | c :: l, i => by
    show _ :: enumD (i + 1) (l.map .int) = _ :: (enI (i + 1) l).map _
    rw [enum_map l (i + 1)]
def maxNZ (r : List Int) : Bool := match maxI r with
  | some M => decide (M ≠ 0)
  | none => false
theorem facts {k n : Nat} (hk : k ≤ 6) (h1 : 28 ≤ n) (h2 : n ≤ 31) :
    (rowsI k n).flatten = cellsI k n ∧ (cellsI k n).filter (fun c => decide (0 < c)) = rng 1 n ∧ (cellsI k n).length % 7 = 0 ∧ (cellsI k n).length ≤ 42 ∧ (rowsI k n).all maxNZ = true ∧
    ((enI 0 (cellsI k n)).all fun p => decide (0 < p.2 → p.2 = (p.1 : Int) - k + 1 ∧ p.2 ≤ n)) = true ∧ ((enI 0 (cellsI k n)).filter fun p => decide (0 < p.2)).length = n ∧
    (cellsI k n).findIdx? (fun c => c == 1) = some k ∧ (cellsI k n).findIdx? (fun c => c == (n : Int)) = some (k + n - 1) ∧ (cutI (cellsI k n) k ((k + n - 1 : Nat) : Int)).any (fun c => c == 0) = false := by
  have hk : k = 0 ∨ k = 1 ∨ k = 2 ∨ k = 3 ∨ k = 4 ∨ k = 5 ∨ k = 6 := by omega
  rcases hk with rfl | rfl | rfl | rfl | rfl | rfl | rfl <;> rcases n28 h1 h2 with rfl | rfl | rfl | rfl <;> decide +kernel
theorem dats_ints : ∀ l : List Int, D.dats (l.map .int) = true ∧ D.deps (l.map .int) ≤ 0 ∧ D.eqvs (l.map .int) (l.map .int) = true
  | [] => ⟨rfl, by decide, rfl⟩
  | p :: l => by
    obtain ⟨h1, h2, h3⟩ := dats_ints l
    refine ⟨?_, ?_, ?_⟩
    · exact h1
    · show max 0 (D.deps (l.map .int)) ≤ 0
      omega
    · show (D.eqv (.int p) (.int p) && D.eqvs (l.map .int) (l.map .int)) = true
      rw [h3]
      simp [D.eqv]
theorem ne_ints (l : List Int) (st : Store) : aNe (.lst (l.map .int)) (.lst (l.map .int)) st = .ok (.bl false) st := by
  obtain ⟨h1, h2, h3⟩ := dats_ints l
  have h4 : D.deps (l.map .int) + 1 ≤ 64 := by omega
  simp [aNe, norm, okEq, D.isSc, D.dat, D.dep, D.eqv, h1, h3, h4]
/-- the rows put behind each other -/
theorem flat_loop {i j : Nat} (E : List Int → Option D → G.Env) (hset : ∀ acc o d, (E acc o).set i (some d) = E acc (some d)) (st : Store) {fb : DS}
    (hb : ∀ acc r, (acc ++ r).length ≤ 16777216 → fb (E acc (some (.tup (r.map .int)))) st = .nx (E (acc ++ r) (some (.tup (r.map .int)))) st) : ∀ (rs : List (List Int)) (acc : List Int) (o : Option D), (acc ++ rs.flatten).length ≤ 16777216 → ∃ o', forD (dgName i) fb none (rs.map fun r => .tup (r.map .int)) (E acc o) st = .nx (E (acc ++ rs.flatten) o') st
  | [], acc, o, _ => ⟨o, by simp [forD, gdOk]⟩
  | r :: rs, acc, o, h => by
    have h2 : acc ++ (r :: rs).flatten = acc ++ r ++ rs.flatten := by simp
    rw [h2] at h ⊢
    have h3 : (acc ++ r).length ≤ 16777216 := by rw [List.length_append] at h; omega
    obtain ⟨o', q⟩ := flat_loop (j := j) E hset st hb rs (acc ++ r) (some (.tup (r.map .int))) h
    exact ⟨o', by simp [forD, gdOk, dgName, hset, hb acc r h3, loopK, q]⟩
theorem atI_rng {n : Nat} {c : Int} (h1 : 1 ≤ c) (h2 : c ≤ n) : L2.atI (rng 1 n) (c - 1) = some c := by
  unfold L2.atI L2.ixN
  rw [rng_len, if_pos (by omega), if_pos (by omega)]
  show (rng 1 n)[(c - 1).toNat]? = some c
  unfold rng
  rw [List.getElem?_map, List.getElem?_range (by omega)]
  show some (1 + (((c - 1).toNat : Nat) : Int)) = some c
  congr 1
  omega
theorem maxA (r : List Int) (st : Store) (h : maxNZ r = true) : ∃ M : Int, M ≠ 0 ∧ bMaxA [.tup (r.map .int)] st = .ok (.int M) st := by
  have hi : ∀ l : List Int, intsD (l.map .int) = some l := fun l => by
    induction l with
    | nil => rfl
    | cons a l ih => show (intsD (l.map .int)).map _ = _; rw [ih]; rfl
  unfold maxNZ at h
  cases hm : maxI r with
  | none => rw [hm] at h; cases h
  | some M =>
    rw [hm] at h
    exact ⟨M, of_decide_eq_true h, by simp [bMaxA, seqA, hi, hm]⟩
end K02

namespace K02
open PySem G
theorem forL {i : Nat} {fb : DS} {α : Type} (mk : α → D) (P : List α → G.Env → Store → Prop) : ∀ (l : List α) (env : G.Env) (st : Store), P l env st →
    (∀ a r env st, P (a :: r) env st → ∃ env' st', fb (env.set i (some (mk a))) st = .nx env' st' ∧ P r env' st') → ∃ env' st', forD (dgName i) fb none (l.map mk) env st = .nx env' st' ∧ P [] env' st'
  | [], env, st, hp, _ => ⟨env, st, by simp [forD, gdOk], hp⟩
  | a :: l, env, st, hp, h => by
    obtain ⟨env1, st1, h1, h2⟩ := h a l env st hp
    obtain ⟨env2, st2, h3, h4⟩ := forL mk P l env1 st1 h2 h
    exact ⟨env2, st2, by simp [forD, gdOk, dgName, h1, loopK, h3], h4⟩
def insU (kk : List Int) (w : Int) : List Int := if (kk.any fun x => x == w) = true then kk else kk ++ [w]
def uniq (kk ws : List Int) : List Int := ws.foldl insU kk
theorem insU_ok {kk : List Int} (w : Int) (h : kk.Nodup) : (insU kk w).Nodup ∧ (∀ x, x ∈ insU kk w ↔ x ∈ kk ∨ x = w) ∧ (insU kk w).length ≤ kk.length + 1 := by
  unfold insU
  split
  · rename_i c
    obtain ⟨x, h1, h2⟩ := List.any_eq_true.mp c
    have h2 : x = w := by simpa using h2
    subst h2
    exact ⟨h, fun y => ⟨.inl, fun z => z.elim id fun e => by rw [e]; exact h1⟩, by omega⟩
  · rename_i c
    have hn : w ∉ kk := fun z => c (List.any_eq_true.mpr ⟨w, z, by simp⟩)
    refine ⟨?_, fun y => by simp, by simp⟩
    rw [List.nodup_append]
    exact ⟨h, by simp, fun a ha b hb => by rw [List.mem_singleton.mp hb]; exact fun z => hn (by rw [← z]; exact ha)⟩
theorem uniq_ok : ∀ (ws kk : List Int), kk.Nodup → (uniq kk ws).Nodup ∧ (∀ x, x ∈ uniq kk ws ↔ x ∈ kk ∨ x ∈ ws) ∧ (uniq kk ws).length ≤ kk.length + ws.length
  | [], kk, h => ⟨h, fun x => by simp [uniq], by simp [uniq]⟩
  | w :: ws, kk, h => by
    obtain ⟨h1, h2, h3⟩ := insU_ok w h
    obtain ⟨h4, h5, h6⟩ := uniq_ok ws (insU kk w) h1
    refine ⟨h4, fun x => ?_, ?_⟩
    · have := h5 x
      rw [show uniq kk (w :: ws) = uniq (insU kk w) ws from rfl, this, h2 x, List.mem_cons]
      exact or_assoc
    · rw [show uniq kk (w :: ws) = uniq (insU kk w) ws from rfl, List.length_cons]
      omega
theorem any_inl (kk : List Int) (w : Int) : ((kk.map (Sum.inl : Int → L2.Key)).any fun x => decide (x = Sum.inl w)) = kk.any fun x => x == w := by
  rw [List.any_map]
  congr 1
  funext x
  show decide ((Sum.inl x : L2.Key) = Sum.inl w) = (x == w)
  by_cases c : x = w
  · subst c; simp
  · simp [c]
theorem dc_run {env : G.Env} {st : Store} {i : Nat} (hi : ∀ w : Int, (env.set i (some (.int w)))[i]? = some (some (.int w))) : ∀ (ws kk : List Int) (vs : List D), ∃ vs', dcD (dgName i) dYes (dVar i) (dC (.bl true)) none (ws.map .int) env st (kk.map Sum.inl) vs = .ok (.dic (((uniq kk ws).map Sum.inl).map .k) vs') st
  | [], kk, vs => ⟨vs, by simp [dcD, gdOk, uniq]⟩
  | w :: ws, kk, vs => by
    have e : putKs (kk.map Sum.inl) (Sum.inl w) = (insU kk w).map Sum.inl := by
      unfold putKs insU
      rw [any_inl]
      split
      · rfl
      · rw [List.map_append]; rfl
    obtain ⟨vs', q⟩ := dc_run hi ws (insU kk w) (putDs (kk.map Sum.inl) vs (Sum.inl w) (.bl true))
    refine ⟨vs', ?_⟩
    have q2 : uniq kk (w :: ws) = uniq (insU kk w) ws := rfl
    rw [q2]
    simp only [List.map_cons, dcD, gdOk, if_true, dgName, dYes, R.b, dVar, hi, dC, keyD, e]
    exact q
theorem intKs_map : ∀ kk : List Int, intKs ((kk.map Sum.inl).map .k) = some kk
  | [] => rfl
  | k :: kk => by
    show (intKs ((kk.map Sum.inl).map .k)).map (k :: ·) = _
    rw [intKs_map kk]
    rfl
/-- how many of a weekday -/
def cnt (F L w : Int) : Int := if F + (w - (F - 1)) % 7 ≤ L then (L - (F + (w - (F - 1)) % 7)) / 7 + 1 else 0
def tot (f : Int → Int) : List Int → Int
  | [] => 0
  | w :: r => f w + tot f r
theorem tot_perm (f : Int → Int) {a b : List Int} (p : a.Perm b) : tot f a = tot f b := by
  induction p with
  | nil => rfl
  | cons x p ih => show f x + _ = f x + _; rw [ih]
  | swap x y l => show f y + (f x + tot f l) = f x + (f y + tot f l); omega
  | trans p q i1 i2 => rw [i1, i2]
theorem rng_succ (a : Int) (n : Nat) : rng a (n + 1) = rng a n ++ [a + n] := by
  unfold rng
  rw [List.range_succ, List.map_append]
  rfl
theorem cnt_one (F w : Int) (hw : 0 ≤ w ∧ w ≤ 6) : ∀ n : Nat, (((rng F n).filter fun k => (k + 6) % 7 == w).length : Int) = cnt F (F + n - 1) w
  | 0 => by
    unfold cnt
    rw [if_neg (by omega)]
    rfl
  | n + 1 => by
    have ih := cnt_one F w hw n
    rw [rng_succ, List.filter_append, List.length_append, Int.natCast_add, ih]
    by_cases c : (F + n + 6) % 7 = w
    · have e : ([F + (n : Int)].filter fun k => (k + 6) % 7 == w) = [F + (n : Int)] := by simp [c]
      rw [e]
      unfold cnt
      show _ + (1 : Int) = _
      split <;> split <;> omega
    · have e : ([F + (n : Int)].filter fun k => (k + 6) % 7 == w) = [] := by simp [c]
      rw [e]
      unfold cnt
      show _ + (0 : Int) = _
      split <;> split <;> omega
theorem cnt_all (F : Int) (l : List Int) : ∀ kk : List Int, kk.Nodup → ((l.filter fun k => kk.any fun w => w == (k + 6) % 7).length : Int) = tot (fun w => ((l.filter fun k => (k + 6) % 7 == w).length : Int)) kk
  | [], _ => by simp [tot]
  | w :: kk, h => by
    obtain ⟨h1, h2⟩ := List.nodup_cons.mp h
    have ih := cnt_all F l kk h2
    show _ = ((l.filter fun k => (k + 6) % 7 == w).length : Int) + tot _ kk
    rw [← ih]
    clear ih
    induction l with
    | nil => rfl
    | cons a l ih =>
      by_cases c : (a + 6) % 7 = w
      · have c2 : (kk.any fun w => w == (a + 6) % 7) = false := by
          rw [Bool.eq_false_iff]
          intro z
          obtain ⟨x, hx, e⟩ := List.any_eq_true.mp z
          have e : x = (a + 6) % 7 := by simpa using e
          exact h1 (by rw [← c, ← e]; exact hx)
        have p1 : ((w :: kk).any fun w => w == (a + 6) % 7) = true := by simp [c]
        have p2 : ((a + 6) % 7 == w) = true := by simp [c]
        rw [List.filter_cons, if_pos p1, List.filter_cons, if_pos p2, List.filter_cons, if_neg (by rw [c2]; exact Bool.false_ne_true), List.length_cons, List.length_cons]
        omega
      · have c3 : ¬ w = (a + 6) % 7 := fun z => c z.symm
        have p1 : ((w :: kk).any fun w => w == (a + 6) % 7) = (kk.any fun w => w == (a + 6) % 7) := by simp [c3]
        have p2 : ((a + 6) % 7 == w) = false := by simp [c]
        simp only [List.filter_cons, p1, p2, Bool.false_eq_true, if_false]
        split
        · simp only [List.length_cons]; omega
        · exact ih
theorem tot_congr (f g : Int → Int) : ∀ l : List Int, (∀ w ∈ l, f w = g w) → tot f l = tot g l
  | [], _ => rfl
  | w :: l, h => by
    show f w + _ = g w + _
    rw [h w List.mem_cons_self, tot_congr f g l fun x hx => h x (List.mem_cons_of_mem _ hx)]
/-- the count, looking day by day -/
theorem count_ok (F L : Int) (ws : List Int) (hw : ∀ w ∈ ws, 0 ≤ w ∧ w ≤ 6) (hL : F - 100 ≤ L) : (((rng F (L + 1 - F).toNat).filter fun k => ws.any fun w => w == (k + 6) % 7).length : Int) = tot (cnt F L) (sortI (uniq [] ws)) := by
  obtain ⟨h1, h2, h3⟩ := uniq_ok ws [] List.nodup_nil
  rw [tot_perm _ (sortI_perm _)]
  have e : (rng F (L + 1 - F).toNat).filter (fun k => ws.any fun w => w == (k + 6) % 7) = (rng F (L + 1 - F).toNat).filter (fun k => (uniq [] ws).any fun w => w == (k + 6) % 7) := List.filter_congr fun k _ => by
    rw [Bool.eq_iff_iff, List.any_eq_true, List.any_eq_true]
    exact ⟨fun ⟨x, hx, hy⟩ => ⟨x, (h2 x).mpr (.inr hx), hy⟩, fun ⟨x, hx, hy⟩ => ⟨x, ((h2 x).mp hx).resolve_left (fun z => nomatch z), hy⟩⟩
  rw [e, cnt_all F _ _ h1]
  refine tot_congr _ _ _ fun w hx => ?_
  have hww := hw w (((h2 w).mp hx).resolve_left (fun z => nomatch z))
  rw [cnt_one F w hww]
  by_cases c : F ≤ L + 1
  · rw [show F + ((L + 1 - F).toNat : Int) - 1 = L by omega]
  · rw [show (L + 1 - F).toNat = 0 by omega]
    unfold cnt
    rw [if_neg (by omega), if_neg (by omega)]
theorem e_count {y m d y' m' d' : Int} (h : Val y m d) (h' : Val y' m' d') {ws : List Int} (hw : ∀ w ∈ ws, 0 ≤ w ∧ w ≤ 6) (hl : ws.length ≤ 30) (st : Store) :
    f_count_weekdays [.tup [.int y, .int m, .int d], .tup [.int y', .int m', .int d'], .lst (ws.map .int)] st = .ok (.int (tot (cnt (num y m d) (num y' m' d')) (sortI (uniq [] ws)))) st := by
  have e1 := fun st => e_num' h st
  have e2 := fun st => e_num' h' st
  have e3 := fun st => e_weekday _ st (num_bd h)
  obtain ⟨A, hA⟩ : ∃ A : D, A = .tup [.int y, .int m, .int d] := ⟨_, rfl⟩
  obtain ⟨B, hB⟩ : ∃ B : D, B = .tup [.int y', .int m', .int d'] := ⟨_, rfl⟩
  rw [← hA] at e1 ⊢
  rw [← hB] at e2 ⊢
  obtain ⟨F, hF⟩ : ∃ F, F = num y m d := ⟨_, rfl⟩
  obtain ⟨L, hL⟩ : ∃ L, L = num y' m' d' := ⟨_, rfl⟩
  rw [← hF] at e1 e3 ⊢
  rw [← hL] at e2 ⊢
  obtain ⟨h1, h2, h3⟩ := uniq_ok ws [] List.nodup_nil
  obtain ⟨env1, st1, q1, q2, o1, q3⟩ := forL (i := 3) (fb := l_count_weekdays_1) .int (fun r env s => s = st ∧ (∃ o, env = [some A, some B, some (.lst (ws.map .int)), o, none, none, none, none]) ∧ ∀ w ∈ r, 0 ≤ w ∧ w ≤ 6) ws [some A, some B, some (.lst (ws.map .int)), none, none, none, none, none] st ⟨rfl, ⟨_, rfl⟩, hw⟩ (by
    rintro w r env s ⟨rfl, ⟨o, rfl⟩, hr⟩
    have e := fun st => (e_cweekday w st).trans (if_pos (hr w List.mem_cons_self))
    refine ⟨_, _, ?_, rfl, ⟨some (.int w), rfl⟩, fun x hx => hr x (List.mem_cons_of_mem _ hx)⟩
    unfold l_count_weekdays_1
    simp [aLeT, dSeq, dIfS, dNot, dB, dChain, dC, dVar, dRet, dRetN, dNext, dAndV, dOrV, dNotV, dAnd, dOr, dIf, dTru, truD, dBin, dCons, dNil, dTup, dLst, mkL, dCall, dAsg, dAug, dPar, dgName, dgTup, dgCons, dgNil, dDrop, R.bind, R.s, R.b, aLe, aLt, aGt, aGe, aSub, aAdd, aMul, aFdiv, aMod, aEq, aNe, aIsN, aNotN, D.isNon, aAddI, aIx, L2.atI, L2.ixN, beqi, seqA, seqL, seqR, okEq, norm, D.isSc, D.isStr, D.dat, D.dats, D.dep, D.deps, D.eqv, D.eqvs, dRaise, dNeg, bSum, bAbs, bInt, bMax2, bMin2, bLen, intsD, dSl, aSl, dP, dNoP, okMul, fm, fd, e])
  subst q2
  obtain ⟨o1, rfl⟩ := o1
  obtain ⟨vs, q4⟩ := dc_run (env := [some A, some B, some (.lst (ws.map .int)), none, some (.int F), some (.int L), some (.int 0), none]) (st := st1) (i := 3) (fun w => rfl) ws [] []
  have q4 : dcD (dgName 3) dYes (dVar 3) (dC (.bl true)) none (ws.map .int) [some A, some B, some (.lst (ws.map .int)), none, some (.int F), some (.int L), some (.int 0), none] st1 [] [] = _ := q4
  have hu : (uniq [] ws).length < 64 := by have : (uniq [] ws).length ≤ 0 + ws.length := h3; omega
  have q5 : bSortedK false [.dic (((uniq [] ws).map Sum.inl).map .k) vs] st1 = .ok (.lst ((sortI (uniq [] ws)).map .int)) st1 := by
    unfold bSortedK
    simp only [intKs_map, hu, if_true, mkL]
    rfl
  obtain ⟨T, hT⟩ : ∃ T, T = tot (cnt F L) (sortI (uniq [] ws)) := ⟨_, rfl⟩
  obtain ⟨env2, st2, q6, q7, o2, s2, t2, q8, q9⟩ := forL (i := 3) (fb := l_count_weekdays_2) .int (fun r env s => s = st1 ∧ ∃ o z t, env = [some A, some B, some (.lst (ws.map .int)), o, some (.int F), some (.int L), some (.int t), z] ∧ t + tot (cnt F L) r = T) (sortI (uniq [] ws)) [some A, some B, some (.lst (ws.map .int)), o1, some (.int F), some (.int L), some (.int 0), none] st1 ⟨rfl, _, _, _, rfl, by rw [hT]; omega⟩ (by
    rintro w r env s ⟨rfl, o, z, t, rfl, ht⟩
    have ht : t + (cnt F L w + tot (cnt F L) r) = T := ht
    refine ⟨_, _, ?_, rfl, some (.int w), some (.int (F + (w - (F - 1)) % 7)), t + cnt F L w, rfl, by omega⟩
    unfold l_count_weekdays_2 cnt
    by_cases c : F + (w - (F - 1)) % 7 ≤ L
    · have c2 : 0 < (L - (F + (w - (F - 1)) % 7)) / 7 + 1 := by omega
      simp [aLeT, dSeq, dIfS, dNot, dB, dChain, dC, dVar, dRet, dRetN, dNext, dAndV, dOrV, dNotV, dAnd, dOr, dIf, dTru, truD, dBin, dCons, dNil, dTup, dLst, mkL, dCall, dAsg, dAug, dPar, dgName, dgTup, dgCons, dgNil, dDrop, R.bind, R.s, R.b, aLe, aLt, aGt, aGe, aSub, aAdd, aMul, aFdiv, aMod, aEq, aNe, aIsN, aNotN, D.isNon, aAddI, aIx, L2.atI, L2.ixN, beqi, seqA, seqL, seqR, okEq, norm, D.isSc, D.isStr, D.dat, D.dats, D.dep, D.deps, D.eqv, D.eqvs, dRaise, dNeg, bSum, bAbs, bInt, bMax2, bMin2, bLen, intsD, dSl, aSl, dP, dNoP, okMul, fm, fd, e3, fm7, fd7, c, c2]
    · simp [aLeT, dSeq, dIfS, dNot, dB, dChain, dC, dVar, dRet, dRetN, dNext, dAndV, dOrV, dNotV, dAnd, dOr, dIf, dTru, truD, dBin, dCons, dNil, dTup, dLst, mkL, dCall, dAsg, dAug, dPar, dgName, dgTup, dgCons, dgNil, dDrop, R.bind, R.s, R.b, aLe, aLt, aGt, aGe, aSub, aAdd, aMul, aFdiv, aMod, aEq, aNe, aIsN, aNotN, D.isNon, aAddI, aIx, L2.atI, L2.ixN, beqi, seqA, seqL, seqR, okEq, norm, D.isSc, D.isStr, D.dat, D.dats, D.dep, D.deps, D.eqv, D.eqvs, dRaise, dNeg, bSum, bAbs, bInt, bMax2, bMin2, bLen, intsD, dSl, aSl, dP, dNoP, okMul, fm, fd, e3, fm7, fd7, c])
  subst q7 q8
  have q9 : t2 = T := by simpa [tot] using q9
  subst q9
  have hwl : ws.length ≤ 16777216 := by omega
  have q10 : dDc (dIt (dVar 2)) (dgName 3) dYes (dVar 3) (dC (.bl true)) [3] [some A, some B, some (.lst (ws.map .int)), o1, some (.int F), some (.int L), some (.int 0), none] st2 = .ok (.dic (((uniq [] ws).map Sum.inl).map .k) vs) st2 := by
    show (if (ws.map D.int).length ≤ 16777216 then _ else _) = _
    rw [if_pos (by rw [List.length_map]; exact hwl)]
    exact q4
  obtain ⟨DK, hDK⟩ : ∃ DK : D, DK = .dic (((uniq [] ws).map Sum.inl).map .k) vs := ⟨_, rfl⟩
  rw [← hDK] at q5 q10
  rw [← hT]
  unfold f_count_weekdays b_count_weekdays runB
  simp [aLeT, dSeq, dIfS, dNot, dB, dChain, dC, dVar, dRet, dRetN, dNext, dAndV, dOrV, dNotV, dAnd, dOr, dIf, dTru, truD, dBin, dCons, dNil, dTup, dLst, mkL, dCall, dAsg, dAug, dPar, dgName, dgTup, dgCons, dgNil, dDrop, R.bind, R.s, R.b, aLe, aLt, aGt, aGe, aSub, aAdd, aMul, aFdiv, aMod, aEq, aNe, aIsN, aNotN, D.isNon, aAddI, aIx, L2.atI, L2.ixN, beqi, seqA, seqL, seqR, okEq, norm, D.isSc, D.isStr, D.dat, D.dats, D.dep, D.deps, D.eqv, D.eqvs, dRaise, dNeg, bSum, bAbs, bInt, bMax2, bMin2, bLen, intsD, dSl, aSl, dP, dNoP, okMul, fm, fd, dFor, dIt, gdOf, q1, e1, e2, q10, q5, q6]
end K02

namespace K02
open PySem G
theorem plain (a b c : Int) : f__law_plain [] [.lst [.int a, .int b, .int c]] = .ok (.bl true) [.lst [.int a, .int b, .int c]] := by kernel_rfl
theorem e_dice (i : Int) (st : Store) : ∃ a b c : Int, f__law_dice [.int i] st = .ok (.ref st.length) (st ++ [.lst [.int a, .int b, .int c]]) := by
  unfold f__law_dice b__law_dice runB
  by_cases h1 : -10 < i
  · by_cases h2 : i < 10
    · exact ⟨if i < 0 then -i else i, 0, 2, by simp [aLeT, dSeq, dIfS, dNot, dB, dChain, dC, dVar, dRet, dRetN, dNext, dAndV, dOrV, dNotV, dAnd, dOr, dIf, dTru, truD, dBin, dCons, dNil, dTup, dLst, mkL, dCall, dAsg, dAug, dPar, dgName, dgTup, dgCons, dgNil, dDrop, R.bind, R.s, R.b, aLe, aLt, aGt, aGe, aSub, aAdd, aMul, aFdiv, aMod, aEq, aNe, aIsN, aNotN, D.isNon, aAddI, aIx, L2.atI, L2.ixN, beqi, seqA, seqL, seqR, okEq, norm, D.isSc, D.isStr, D.dat, D.dats, D.dep, D.deps, D.eqv, D.eqvs, dRaise, dNeg, bSum, bAbs, bInt, bMax2, bMin2, bLen, intsD, dSl, aSl, dP, dNoP, okMul, fm, fd, h1, h2]⟩
    · exact ⟨i, 1 + i.fmod 1009, if 1000000000000000000 ≤ i then 1 else 0, by simp [aLeT, dSeq, dIfS, dNot, dB, dChain, dC, dVar, dRet, dRetN, dNext, dAndV, dOrV, dNotV, dAnd, dOr, dIf, dTru, truD, dBin, dCons, dNil, dTup, dLst, mkL, dCall, dAsg, dAug, dPar, dgName, dgTup, dgCons, dgNil, dDrop, R.bind, R.s, R.b, aLe, aLt, aGt, aGe, aSub, aAdd, aMul, aFdiv, aMod, aEq, aNe, aIsN, aNotN, D.isNon, aAddI, aIx, L2.atI, L2.ixN, beqi, seqA, seqL, seqR, okEq, norm, D.isSc, D.isStr, D.dat, D.dats, D.dep, D.deps, D.eqv, D.eqvs, dRaise, dNeg, bSum, bAbs, bInt, bMax2, bMin2, bLen, intsD, dSl, aSl, dP, dNoP, okMul, fm, fd, aPow, h1, h2]⟩
  · exact ⟨i, 1 + i.fmod 1009, if 1000000000000000000 ≤ i then 1 else 0, by simp [aLeT, dSeq, dIfS, dNot, dB, dChain, dC, dVar, dRet, dRetN, dNext, dAndV, dOrV, dNotV, dAnd, dOr, dIf, dTru, truD, dBin, dCons, dNil, dTup, dLst, mkL, dCall, dAsg, dAug, dPar, dgName, dgTup, dgCons, dgNil, dDrop, R.bind, R.s, R.b, aLe, aLt, aGt, aGe, aSub, aAdd, aMul, aFdiv, aMod, aEq, aNe, aIsN, aNotN, D.isNon, aAddI, aIx, L2.atI, L2.ixN, beqi, seqA, seqL, seqR, okEq, norm, D.isSc, D.isStr, D.dat, D.dats, D.dep, D.deps, D.eqv, D.eqvs, dRaise, dNeg, bSum, bAbs, bInt, bMax2, bMin2, bLen, intsD, dSl, aSl, dP, dNoP, okMul, fm, fd, aPow, h1]⟩
theorem e_rounds (ns : List Int) : ∃ a b c : Int, f__law_rounds [.scr ns, .int 1] [] = .ok (.lst [.ref 0]) [.lst [.int a, .int b, .int c]] := by
  unfold f__law_rounds b__law_rounds runB
  cases ns with
  | nil =>
    obtain ⟨a, b, c, e⟩ := e_dice 0 []
    exact ⟨a, b, c, by simp [aLeT, dSeq, dIfS, dNot, dB, dChain, dC, dVar, dRet, dRetN, dNext, dAndV, dOrV, dNotV, dAnd, dOr, dIf, dTru, truD, dBin, dCons, dNil, dTup, dLst, mkL, dCall, dAsg, dAug, dPar, dgName, dgTup, dgCons, dgNil, dDrop, R.bind, R.s, R.b, aLe, aLt, aGt, aGe, aSub, aAdd, aMul, aFdiv, aMod, aEq, aNe, aIsN, aNotN, D.isNon, aAddI, aIx, L2.atI, L2.ixN, beqi, seqA, seqL, seqR, okEq, norm, D.isSc, D.isStr, D.dat, D.dats, D.dep, D.deps, D.eqv, D.eqvs, dRaise, dNeg, bSum, bAbs, bInt, bMax2, bMin2, bLen, intsD, dSl, aSl, dP, dNoP, okMul, fm, fd, HT.sIx, cutD, dLc, dIt, gdOf, lcD, gdOk, y__law_rounds_1, dYes, wipeE, e, lstAt]⟩
  | cons i r =>
    obtain ⟨a, b, c, e⟩ := e_dice i []
    have h1 : min 1 (r.length + 1) = 1 := by omega
    exact ⟨a, b, c, by simp [aLeT, dSeq, dIfS, dNot, dB, dChain, dC, dVar, dRet, dRetN, dNext, dAndV, dOrV, dNotV, dAnd, dOr, dIf, dTru, truD, dBin, dCons, dNil, dTup, dLst, mkL, dCall, dAsg, dAug, dPar, dgName, dgTup, dgCons, dgNil, dDrop, R.bind, R.s, R.b, aLe, aLt, aGt, aGe, aSub, aAdd, aMul, aFdiv, aMod, aEq, aNe, aIsN, aNotN, D.isNon, aAddI, aIx, L2.atI, L2.ixN, beqi, seqA, seqL, seqR, okEq, norm, D.isSc, D.isStr, D.dat, D.dats, D.dep, D.deps, D.eqv, D.eqvs, dRaise, dNeg, bSum, bAbs, bInt, bMax2, bMin2, bLen, intsD, dSl, aSl, dP, dNoP, okMul, fm, fd, HT.sIx, cutD, dLc, dIt, gdOf, lcD, gdOk, y__law_rounds_1, dYes, wipeE, e, lstAt, h1]⟩
theorem e_ldate {st : Store} {n : Nat} {a b c : Int} (hs : lstAt st n = some [.int a, .int b, .int c]) :
    ∃ y m d a' b' c' : Int, Val y m d ∧ (1890 ≤ y ∧ y ≤ 2189) ∧ f__law_date [.ref n] st = .ok (.tup [.int y, .int m, .int d]) (st.set n (.lst [.int a', .int b', .int c'])) := by
  obtain ⟨r1, a1, b1, c1, p1, q1, s1⟩ := e_roll 300 hs (by decide) (by decide)
  have t1 := lstAt_set (es := [.int a1, .int b1, .int c1]) hs
  obtain ⟨r2, a2, b2, c2, p2, q2, s2⟩ := e_roll 12 t1 (by decide) (by decide)
  have t2 := lstAt_set (es := [.int a2, .int b2, .int c2]) hs
  rw [List.set_set] at s2
  have hm : 1 ≤ 1 + r2 ∧ 1 + r2 ≤ 12 := by omega
  have hd := dim_pos (y := 1890 + r1) hm.1 hm.2
  have hym : YM (1890 + r1) (1 + r2) := ⟨⟨by omega, by omega⟩, hm⟩
  have ed := fun st => (e_dim (1890 + r1) (1 + r2) st).trans (if_pos hym)
  obtain ⟨r3, a3, b3, c3, p3, q3, s3⟩ := e_roll (dim (1890 + r1) (1 + r2)) t2 (by omega) (by omega)
  rw [List.set_set] at s3
  refine ⟨1890 + r1, 1 + r2, 1 + r3, a3, b3, c3, ⟨hym, by omega, by omega⟩, by omega, ?_⟩
  unfold f__law_date b__law_date runB
  simp [aLeT, dSeq, dIfS, dNot, dB, dChain, dC, dVar, dRet, dRetN, dNext, dAndV, dOrV, dNotV, dAnd, dOr, dIf, dTru, truD, dBin, dCons, dNil, dTup, dLst, mkL, dCall, dAsg, dAug, dPar, dgName, dgTup, dgCons, dgNil, dDrop, R.bind, R.s, R.b, aLe, aLt, aGt, aGe, aSub, aAdd, aMul, aFdiv, aMod, aEq, aNe, aIsN, aNotN, D.isNon, aAddI, aIx, L2.atI, L2.ixN, beqi, seqA, seqL, seqR, okEq, norm, D.isSc, D.isStr, D.dat, D.dats, D.dep, D.deps, D.eqv, D.eqvs, dRaise, dNeg, bSum, bAbs, bInt, bMax2, bMin2, bLen, intsD, dSl, aSl, dP, dNoP, okMul, fm, fd, s1, s2, ed, s3]
/-- numbers of the years drawn -/
theorem num_mid {y m d : Int} (h : Val y m d) (hy : 1880 ≤ y ∧ y ≤ 2200) : 600000 ≤ num y m d ∧ num y m d ≤ 900000 := by
  have := num_in h
  unfold dby at this
  omega
theorem dby_mid {y : Int} (hy : 1880 ≤ y ∧ y ≤ 2200) : 600000 ≤ dby y ∧ dby y ≤ 900000 := by
  unfold dby
  omega
theorem e_same {y z : Int} (h : 1 ≤ y ∧ y ≤ 9999) (h' : 1 ≤ z ∧ z ≤ 9999) (st : Store) : f_same_calendar [.int y, .int z] st = .ok (.bl (decide (dby y % 7 = dby z % 7) && decide (dim y 2 = dim z 2))) st := by
  have one : ∀ (a b : D) (x : Int), 1 ≤ x ∧ x ≤ 9999 → ∀ o : Option D, ∀ st, y_same_calendar_1 [some a, some b, o, some (.int x)] st = .ok (.tup [.int (dby x % 7), .int (dim x 2)]) st := fun a b x hx o st => by
    have e1 := fun st => e_num' (v_jan hx) st
    have e2 := fun st => e_weekday _ st (num_bd (v_jan hx))
    rw [num_jan] at e1 e2
    have e3 := fun st => (e_dim x 2 st).trans (if_pos ⟨hx, by decide, by decide⟩)
    have e4 : dby x + 1 - 1 = dby x := by omega
    rw [e4] at e2
    unfold y_same_calendar_1
    simp [aLeT, dSeq, dIfS, dNot, dB, dChain, dC, dVar, dRet, dRetN, dNext, dAndV, dOrV, dNotV, dAnd, dOr, dIf, dTru, truD, dBin, dCons, dNil, dTup, dLst, mkL, dCall, dAsg, dAug, dPar, dgName, dgTup, dgCons, dgNil, dDrop, R.bind, R.s, R.b, aLe, aLt, aGt, aGe, aSub, aAdd, aMul, aFdiv, aMod, aEq, aNe, aIsN, aNotN, D.isNon, aAddI, aIx, L2.atI, L2.ixN, beqi, seqA, seqL, seqR, okEq, norm, D.isSc, D.isStr, D.dat, D.dats, D.dep, D.deps, D.eqv, D.eqvs, dRaise, dNeg, bSum, bAbs, bInt, bMax2, bMin2, bLen, intsD, dSl, aSl, dP, dNoP, okMul, fm, fd, e1, e2, e3]
  unfold f_same_calendar b_same_calendar runB
  simp [aLeT, dSeq, dIfS, dNot, dB, dChain, dC, dVar, dRet, dRetN, dNext, dAndV, dOrV, dNotV, dAnd, dOr, dIf, dTru, truD, dBin, dCons, dNil, dTup, dLst, mkL, dCall, dAsg, dAug, dPar, dgName, dgTup, dgCons, dgNil, dDrop, R.bind, R.s, R.b, aLe, aLt, aGt, aGe, aSub, aAdd, aMul, aFdiv, aMod, aEq, aNe, aIsN, aNotN, D.isNon, aAddI, aIx, L2.atI, L2.ixN, beqi, seqA, seqL, seqR, okEq, norm, D.isSc, D.isStr, D.dat, D.dats, D.dep, D.deps, D.eqv, D.eqvs, dRaise, dNeg, bSum, bAbs, bInt, bMax2, bMin2, bLen, intsD, dSl, aSl, dP, dNoP, okMul, fm, fd, dLc, dIt, gdOf, lcD, gdOk, dYes, wipeE, one _ _ y h, one _ _ z h']
theorem e_wfrom {y m d y' m' d' : Int} (h : Val y m d) (h' : Val y' m' d') (st : Store) : f_weeks_from [.tup [.int y, .int m, .int d], .tup [.int y', .int m', .int d']] st = .ok (.int ((num y' m' d' - (num y' m' d' - 1) % 7 - (num y m d - (num y m d - 1) % 7)) / 7)) st := by
  have one : ∀ (a b : D) (x z w : Int), Val x z w → ∀ o : Option D, ∀ st, y_weeks_from_1 [some a, some b, o, some (.tup [.int x, .int z, .int w])] st = .ok (.int (num x z w - (num x z w - 1) % 7)) st := fun a b x z w hx o st => by
    have e1 := fun st => e_num' hx st
    have e2 := fun st => e_weekday _ st (num_bd hx)
    unfold y_weeks_from_1
    simp [aLeT, dSeq, dIfS, dNot, dB, dChain, dC, dVar, dRet, dRetN, dNext, dAndV, dOrV, dNotV, dAnd, dOr, dIf, dTru, truD, dBin, dCons, dNil, dTup, dLst, mkL, dCall, dAsg, dAug, dPar, dgName, dgTup, dgCons, dgNil, dDrop, R.bind, R.s, R.b, aLe, aLt, aGt, aGe, aSub, aAdd, aMul, aFdiv, aMod, aEq, aNe, aIsN, aNotN, D.isNon, aAddI, aIx, L2.atI, L2.ixN, beqi, seqA, seqL, seqR, okEq, norm, D.isSc, D.isStr, D.dat, D.dats, D.dep, D.deps, D.eqv, D.eqvs, dRaise, dNeg, bSum, bAbs, bInt, bMax2, bMin2, bLen, intsD, dSl, aSl, dP, dNoP, okMul, fm, fd, e1, e2]
  have c1 := fun st => (e_check y m d st).trans (if_pos h)
  have c2 := fun st => (e_check y' m' d' st).trans (if_pos h')
  unfold f_weeks_from b_weeks_from runB
  simp [aLeT, dSeq, dIfS, dNot, dB, dChain, dC, dVar, dRet, dRetN, dNext, dAndV, dOrV, dNotV, dAnd, dOr, dIf, dTru, truD, dBin, dCons, dNil, dTup, dLst, mkL, dCall, dAsg, dAug, dPar, dgName, dgTup, dgCons, dgNil, dDrop, R.bind, R.s, R.b, aLe, aLt, aGt, aGe, aSub, aAdd, aMul, aFdiv, aMod, aEq, aNe, aIsN, aNotN, D.isNon, aAddI, aIx, L2.atI, L2.ixN, beqi, seqA, seqL, seqR, okEq, norm, D.isSc, D.isStr, D.dat, D.dats, D.dep, D.deps, D.eqv, D.eqvs, dRaise, dNeg, bSum, bAbs, bInt, bMax2, bMin2, bLen, intsD, dSl, aSl, dP, dNoP, okMul, fm, fd, c1, c2, dLc, dIt, gdOf, lcD, gdOk, dYes, wipeE, one _ _ _ _ _ h, one _ _ _ _ _ h', fd7]
end K02

namespace K02
open PySem G
theorem lc_run2 {fi : DI} {gt : DG} {ft : DT} {fe : DE} {vs : List Nat} {env : G.Env} {st st1 st2 : Store} {ds out : List D} (h1 : fi env st = .ok (ds, none) st1) (h2 : ds.length ≤ 16777216) (h3 : lcD gt ft fe none ds (wipeE env vs) st1 = .ok out st2) : dLc false fi gt ft fe vs env st = .ok (.lst out) st2 := by
  unfold dLc
  rw [h1]
  show (if ds.length ≤ 16777216 then (lcD gt ft fe none ds (wipeE env vs) st1).b fun xs st => mkL false xs st else R.bad) = _
  rw [if_pos h2, h3]
  rfl
theorem lc_run {fi : DI} {gt : DG} {ft : DT} {fe : DE} {vs : List Nat} {env : G.Env} {st : Store} {ds out : List D} (h1 : fi env st = .ok (ds, none) st) (h2 : ds.length ≤ 16777216) (h3 : lcD gt ft fe none ds (wipeE env vs) st = .ok out st) : dLc false fi gt ft fe vs env st = .ok (.lst out) st := lc_run2 h1 h2 h3
theorem max_pp (st : Store) (i j : Int) : bMax2 [.int i, .int j] st = .ok (.int (if j > i then j else i)) st := rfl
theorem enI_len : ∀ (l : List Int) (i : Nat), (enI i l).length = l.length
  | [], _ => rfl
  | c :: l, i => by simp [enI, enI_len l]
theorem map_const {α β : Type} (l : List α) (b : β) : l.map (fun _ => b) = List.replicate l.length b := by
  induction l with
  | nil => rfl
  | cons x l ih => simp [ih, List.replicate_succ]
theorem rows_len {k n : Nat} (hk : k ≤ 6) (h1 : 28 ≤ n) (h2 : n ≤ 31) : (rowsI k n).length ≤ 6 := by
  have hk : k = 0 ∨ k = 1 ∨ k = 2 ∨ k = 3 ∨ k = 4 ∨ k = 5 ∨ k = 6 := by omega
  rcases hk with rfl | rfl | rfl | rfl | rfl | rfl | rfl <;> rcases n28 h1 h2 with rfl | rfl | rfl | rfl <;> decide +kernel
theorem sc_ints : ∀ l : List Int, (l.map D.int).all D.isSc = true
  | [] => rfl
  | _ :: l => sc_ints l
theorem idx_run {fo fe : DE} {env : G.Env} {st : Store} {l : List Int} {i : Int} {j : Nat} (h1 : fo env st = .ok (.lst (l.map .int)) st) (h2 : fe env st = .ok (.int i) st) (h3 : l.findIdx? (fun c => c == i) = some j) : dIndex fo fe env st = .ok (.int (j : Nat)) st := by
  have e : (l.map D.int).findIdx? (fun e => D.eqv e (.int i)) = some j := by
    rw [List.findIdx?_map]
    exact h3
  unfold dIndex
  simp only [h1, h2, R.bind, seqL, sc_ints, e]
  rfl
theorem in_any (x : Int) (l : List Int) (st : Store) : aIn false (.int x) (.lst (l.map .int)) st = .ok (.bl (l.any fun c => c == x)) st := by
  unfold aIn
  simp only [seqA, seqL, sc_ints]
  simp only [D.isSc, and_self, if_true, Bool.false_eq_true, if_false, List.any_map]
  rfl
theorem in_run {x : Int} {l : List Int} {b : Bool} (h : (l.any fun c => c == x) = b) (st : Store) : aIn false (.int x) (.lst (l.map .int)) st = .ok (.bl b) st := by
  rw [in_any, h]
end K02

namespace K02
open PySem G
theorem se : (("WeekError" : Str) == "WeekError") = true := by decide +kernel
theorem ct : (["WeekError"] : List Str).contains "WeekError" = true := by decide +kernel
theorem ne_int0 (st : Store) : aNe (.int 0) (.int 0) st = .ok (.bl false) st := rfl
theorem sdat : D.dat (.str "WeekError") = true := by decide +kernel
theorem listR2_run {f h : DE} {env : G.Env} {st : Store} {i j : Int} {ds : List D} (h1 : f env st = .ok (.int i) st) (h2 : h env st = .ok (.int j) st) (h3 : rng3 (.int i) (.int j) (.int 1) st = .ok ds st) : dListR2 false f h env st = .ok (.lst ds) st := by
  unfold dListR2
  rw [h1, R.bind_ok, h2, R.bind_ok, h3, R.bind_ok]
  rfl
theorem ifs3 {A B : DE} {C E : DT} {env : G.Env} {st : Store} {v : D} (hA : A env st = .ok v st) (hB : B env st = .ok v st) (hne : aNe v v st = .ok (.bl false) st) (hC : C env st = .ok false st) (hE : E env st = .ok false st) : dIfS (dOr (dB (dBin aNe A B)) (dOr C E)) (dRet (dC (.bl false))) dNext env st = .nx env st := by
  simp [dIfS, dOr, dB, dBin, hA, hB, hne, hC, hE, R.bind, R.s, dNext]
theorem ifs1 {A B : DE} {env : G.Env} {st : Store} {v : D} (hA : A env st = .ok v st) (hB : B env st = .ok v st) (hne : aNe v v st = .ok (.bl false) st) : dIfS (dB (dBin aNe A B)) (dRet (dC (.bl false))) dNext env st = .nx env st := by
  simp [dIfS, dB, dBin, hA, hB, hne, R.bind, R.s, dNext]
theorem mul_run {fa fb : DE} {env : G.Env} {st : Store} {d v : D} {i : Int} (h1 : fa env st = .ok (.lst [d]) st) (h2 : fb env st = .ok (.int i) st) (h3 : aMul false (.lst [d]) (.int i) st = .ok v st) : dBin (aMul false) fa fb env st = .ok v st := by
  unfold dBin
  rw [h1, R.bind_ok, h2, R.bind_ok, h3]
theorem add_lst (xs ys zs : List D) {st : Store} (h : xs.length + ys.length ≤ 16777216) (e : zs = xs ++ ys) : aAdd false (.lst xs) (.lst ys) st = .ok (.lst zs) st := by
  have q : aAdd false (.lst xs) (.lst ys) st = if xs.length + ys.length ≤ 16777216 then mkL false (xs ++ ys) st else .bad := rfl
  rw [q, if_pos h, e]
  rfl
/-- weekdays drawn -/
theorem lcRoll {n : Nat} {env : G.Env} (he : ∀ v, (env.set 19 v)[1]? = some (some (.ref n))) : ∀ (l : List Int) (s : Store) (a b c : Int), lstAt s n = some [.int a, .int b, .int c] →
    ∃ (ws : List Int) (a' b' c' : Int), ws.length = l.length ∧ (∀ w ∈ ws, 0 ≤ w ∧ w ≤ 6) ∧ lcD (dgName 19) dYes y_law_10 none (l.map .int) env s = .ok (ws.map .int) (s.set n (.lst [.int a', .int b', .int c']))
  | [], s, a, b, c, h => by
    have e : s.set n (.lst [.int a, .int b, .int c]) = s := by
      have h2 := lstAt_eq h
      apply List.ext_getElem?
      intro j
      by_cases hj : n = j
      · subst hj
        rw [List.getElem?_set_self (List.getElem?_eq_some_iff.mp h2).1, h2]
      · rw [List.getElem?_set_ne hj]
    refine ⟨[], a, b, c, rfl, (fun w hw => by cases hw), ?_⟩
    rw [e]
    simp [lcD, gdOk]
  | x :: l, s, a, b, c, h => by
    obtain ⟨r, a1, b1, c1, p1, q1, s1⟩ := e_roll 7 h (by decide) (by decide)
    obtain ⟨ws, a2, b2, c2, h1, h2, h3⟩ := lcRoll he l _ a1 b1 c1 (lstAt_set (es := [.int a1, .int b1, .int c1]) h)
    rw [List.set_set] at h3
    refine ⟨r :: ws, a2, b2, c2, by simp [h1], fun w hw => ?_, ?_⟩
    · rcases List.mem_cons.mp hw with rfl | hw
      · omega
      · exact h2 w hw
    · have hy : y_law_10 (env.set 19 (some (.int x))) s = .ok (.int r) (s.set n (.lst [.int a1, .int b1, .int c1])) := by
        unfold y_law_10
        have := he (some (.int x))
        simp only [dCall, dCons, dNil, dVar, dC, R.bind, this, s1]
      simp only [List.map_cons, lcD, gdOk, if_true, dgName, dYes, R.b, hy, h3]
/-- one turn of the law -/
theorem turn {st : Store} {n : Nat} {a b c : Int} (x0 : Option D) (hst : ∀ a b c : Int, stCl (st.set n (.lst [.int a, .int b, .int c])).length (st.set n (.lst [.int a, .int b, .int c])) = true) (hs : lstAt st n = some [.int a, .int b, .int c]) :
    ∃ env a' b' c', l_law_2 ([x0, some (.ref n)] ++ List.replicate 25 none) st = .nx env (st.set n (.lst [.int a', .int b', .int c'])) := by
  obtain ⟨y, m, d, a1, b1, c1, V, hY, s1⟩ := e_ldate hs
  have t1 := lstAt_set (es := [.int a1, .int b1, .int c1]) hs
  obtain ⟨oy, om, od, a2, b2, c2, VO, hO, s2⟩ := e_ldate t1
  have t2 := lstAt_set (es := [.int a2, .int b2, .int c2]) hs
  rw [List.set_set] at s2
  obtain ⟨w, a3, b3, c3, p3, q3, s3⟩ := e_roll 7 t2 (by decide) (by decide)
  have t3 := lstAt_set (es := [.int a3, .int b3, .int c3]) hs
  rw [List.set_set] at s3
  obtain ⟨rp, a4, b4, c4, p4, q4, s4⟩ := e_roll 13 t3 (by decide) (by decide)
  have t4 := lstAt_set (es := [.int a4, .int b4, .int c4]) hs
  rw [List.set_set] at s4
  have hw : 0 ≤ w ∧ w ≤ 6 := by omega
  obtain ⟨p, hp⟩ : ∃ p, p = rp - 6 := ⟨_, rfl⟩
  have hyy := V.1.1
  have hmm := V.1.2
  have hN0 := num_mid V (by omega)
  obtain ⟨N, hN⟩ : ∃ N, N = num y m d := ⟨_, rfl⟩
  have f0 := fun st => e_num' V st
  have mN : mid (num y m d - 600) ∧ mid (num y m d + 6) := by unfold mid; omega
  have f1 := fun st => e_lawweek V mN st
  have mN2 : mid (num y m d) := by unfold mid; omega
  have f2 := fun st => e_weekof V mN2 st
  have hwy := wy_in mN2
  have hwyr : 1880 ≤ wy (num y m d) ∧ wy (num y m d) ≤ 2200 := by
    have h1 := num_in V
    have h2 := dby_year (y - 1)
    have h3 := dby_year (y + 1)
    rw [show y - 1 + 1 = y by omega] at h2
    have g1 : ¬ wy (num y m d) < y - 1 := fun z => by
      have := dby_mono (a := wy (num y m d) + 1) (b := y) (by omega)
      have := dby_mono z
      unfold thu at hwy
      omega
    have g2 : ¬ y + 1 < wy (num y m d) := fun z => by
      have := dby_mono z
      unfold thu at hwy
      omega
    omega
  have mD : mid (dby (wy (num y m d) + 1) - 3) := by
    have := dby_year (wy (num y m d))
    have := dby_mid (y := wy (num y m d)) hwyr
    unfold mid
    omega
  have f3 := fun st => e_byweek mN2 mD st
  have f3b := fun st => e_date_of V st
  have f4 := fun st => e_firstweek (y := wy (num y m d)) ⟨by omega, by omega⟩ st
  have g4 := fw_law mN2
  rw [← hN] at f0 f1 f2 f3 f3b f4 g4 hN0 mN2
  have k1 : p_law_1 [x0, some (.ref n), none, none, none, none, none, none, none, none, none, none, none, none, none, none, none, none, none, none, none, none, none, none, none, none, none] st = .nx [x0, some (.ref n), some (.tup [.int y, .int m, .int d]), some (.tup [.int oy, .int om, .int od]), none, none, none, none, none, none, none, none, none, none, none, none, none, none, none, none, none, none, none, none, none, none, none] (st.set n (.lst [.int a2, .int b2, .int c2])) := by
    unfold p_law_1
    simp [aLeT, dSeq, dIfS, dNot, dB, dChain, dC, dVar, dRet, dRetN, dNext, dAndV, dOrV, dNotV, dAnd, dOr, dIf, dTru, truD, dBin, dCons, dNil, dTup, dLst, mkL, dCall, dAsg, dAug, dPar, dgName, dgTup, dgCons, dgNil, dDrop, R.bind, R.s, R.b, aLe, aLt, aGt, aGe, aSub, aAdd, aMul, aFdiv, aMod, aEq, aNe, aIsN, aNotN, D.isNon, aAddI, aIx, L2.atI, L2.ixN, beqi, seqA, seqL, seqR, okEq, norm, D.isSc, D.isStr, D.dat, D.dats, D.dep, D.deps, D.eqv, D.eqvs, dRaise, dNeg, bSum, bAbs, bInt, bMax2, bMin2, bLen, intsD, dSl, aSl, dP, dNoP, okMul, fm, fd, s1, s2]
  have k2 : p_law_2 [x0, some (.ref n), some (.tup [.int y, .int m, .int d]), some (.tup [.int oy, .int om, .int od]), none, none, none, none, none, none, none, none, none, none, none, none, none, none, none, none, none, none, none, none, none, none, none] (st.set n (.lst [.int a2, .int b2, .int c2])) = .nx [x0, some (.ref n), some (.tup [.int y, .int m, .int d]), some (.tup [.int oy, .int om, .int od]), some (.int (wy N)), some (.int (wk N)), some (.int ((N - 1) % 7)), none, none, none, none, none, none, none, none, none, none, none, none, none, none, none, none, none, none, none, none] (st.set n (.lst [.int a2, .int b2, .int c2])) := by
    unfold p_law_2
    simp [aLeT, dSeq, dIfS, dNot, dB, dChain, dC, dVar, dRet, dRetN, dNext, dAndV, dOrV, dNotV, dAnd, dOr, dIf, dTru, truD, dBin, dCons, dNil, dTup, dLst, mkL, dCall, dAsg, dAug, dPar, dgName, dgTup, dgCons, dgNil, dDrop, R.bind, R.s, R.b, aLe, aLt, aGt, aGe, aSub, aAdd, aMul, aFdiv, aMod, aEq, aNe, aIsN, aNotN, D.isNon, aAddI, aIx, L2.atI, L2.ixN, beqi, seqA, seqL, seqR, okEq, norm, D.isSc, D.isStr, D.dat, D.dats, D.dep, D.deps, D.eqv, D.eqvs, dRaise, dNeg, bSum, bAbs, bInt, bMax2, bMin2, bLen, intsD, dSl, aSl, dP, dNoP, okMul, fm, fd, f1]
  have k3 : p_law_3 [x0, some (.ref n), some (.tup [.int y, .int m, .int d]), some (.tup [.int oy, .int om, .int od]), some (.int (wy N)), some (.int (wk N)), some (.int ((N - 1) % 7)), none, none, none, none, none, none, none, none, none, none, none, none, none, none, none, none, none, none, none, none] (st.set n (.lst [.int a2, .int b2, .int c2])) = .nx [x0, some (.ref n), some (.tup [.int y, .int m, .int d]), some (.tup [.int oy, .int om, .int od]), some (.int (wy N)), some (.int (wk N)), some (.int ((N - 1) % 7)), none, none, none, none, none, none, none, none, none, none, none, none, none, none, none, none, none, none, none, none] (st.set n (.lst [.int a2, .int b2, .int c2])) := by
    unfold p_law_3
    simp [aLeT, dSeq, dIfS, dNot, dB, dChain, dC, dVar, dRet, dRetN, dNext, dAndV, dOrV, dNotV, dAnd, dOr, dIf, dTru, truD, dBin, dCons, dNil, dTup, dLst, mkL, dCall, dAsg, dAug, dPar, dgName, dgTup, dgCons, dgNil, dDrop, R.bind, R.s, R.b, aLe, aLt, aGt, aGe, aSub, aAdd, aMul, aFdiv, aMod, aEq, aNe, aIsN, aNotN, D.isNon, aAddI, aIx, L2.atI, L2.ixN, beqi, seqA, seqL, seqR, okEq, norm, D.isSc, D.isStr, D.dat, D.dats, D.dep, D.deps, D.eqv, D.eqvs, dRaise, dNeg, bSum, bAbs, bInt, bMax2, bMin2, bLen, intsD, dSl, aSl, dP, dNoP, okMul, fm, fd, f2, f3, f3b]
  have k4 : p_law_4 [x0, some (.ref n), some (.tup [.int y, .int m, .int d]), some (.tup [.int oy, .int om, .int od]), some (.int (wy N)), some (.int (wk N)), some (.int ((N - 1) % 7)), none, none, none, none, none, none, none, none, none, none, none, none, none, none, none, none, none, none, none, none] (st.set n (.lst [.int a2, .int b2, .int c2])) = .nx [x0, some (.ref n), some (.tup [.int y, .int m, .int d]), some (.tup [.int oy, .int om, .int od]), some (.int (wy N)), some (.int (wk N)), some (.int ((N - 1) % 7)), none, none, none, none, none, none, none, none, none, none, none, none, none, none, none, none, none, none, none, none] (st.set n (.lst [.int a2, .int b2, .int c2])) := by
    unfold p_law_4
    simp [aLeT, dSeq, dIfS, dNot, dB, dChain, dC, dVar, dRet, dRetN, dNext, dAndV, dOrV, dNotV, dAnd, dOr, dIf, dTru, truD, dBin, dCons, dNil, dTup, dLst, mkL, dCall, dAsg, dAug, dPar, dgName, dgTup, dgCons, dgNil, dDrop, R.bind, R.s, R.b, aLe, aLt, aGt, aGe, aSub, aAdd, aMul, aFdiv, aMod, aEq, aNe, aIsN, aNotN, D.isNon, aAddI, aIx, L2.atI, L2.ixN, beqi, seqA, seqL, seqR, okEq, norm, D.isSc, D.isStr, D.dat, D.dats, D.dep, D.deps, D.eqv, D.eqvs, dRaise, dNeg, bSum, bAbs, bInt, bMax2, bMin2, bLen, intsD, dSl, aSl, dP, dNoP, okMul, fm, fd, f4, f0, g4]
  obtain ⟨E, hE⟩ : ∃ E, E = dby (y + 1) := ⟨_, rfl⟩
  have hE0 : 600000 ≤ E ∧ E ≤ 900000 := by rw [hE]; exact dby_mid (by omega)
  have mE : mid (dby (y + 1) - 3) := by unfold mid; omega
  obtain ⟨zL1, zL2, zL3⟩ := last_law mE
  have zL0 := wy_dec mE
  have V1 := v_dec (y := y) (d := 24) hyy (by decide) (by decide)
  have V2 := v_dec (y := y) (d := 28) hyy (by decide) (by decide)
  have V3 := v_dec (y := y) (d := 31) hyy (by decide) (by decide)
  have n1 : num y 12 24 = E - 7 := by rw [num_dec, hE]; omega
  have n2 : num y 12 28 = E - 3 := by rw [num_dec, hE]; omega
  have n3 : num y 12 31 = E := by rw [num_dec, hE]; omega
  have h51 := fun st => e_lawweek V1 (by rw [n1]; unfold mid; omega) st
  have h52 := fun st => e_lawweek V2 (by rw [n2]; unfold mid; omega) st
  have h53 := fun st => e_lawweek V3 (by rw [n3]; unfold mid; omega) st
  rw [n1] at h51
  rw [n2] at h52
  rw [n3] at h53
  rw [← hE] at zL0 zL1 zL2 zL3 mE
  rw [zL1] at h51
  rw [zL0] at h52
  have k5 : p_law_5 [x0, some (.ref n), some (.tup [.int y, .int m, .int d]), some (.tup [.int oy, .int om, .int od]), some (.int (wy N)), some (.int (wk N)), some (.int ((N - 1) % 7)), none, none, none, none, none, none, none, none, none, none, none, none, none, none, none, none, none, none, none, none] (st.set n (.lst [.int a2, .int b2, .int c2])) = .nx [x0, some (.ref n), some (.tup [.int y, .int m, .int d]), some (.tup [.int oy, .int om, .int od]), some (.int (wy N)), some (.int (wk N)), some (.int ((N - 1) % 7)), some (.lst [.tup [.int y, .int (wk (E - 7)), .int ((E - 7 - 1) % 7)], .tup [.int y, .int (wk (E - 3)), .int ((E - 3 - 1) % 7)], .tup [.int (wy E), .int (wk E), .int ((E - 1) % 7)]]), none, none, none, none, none, none, none, none, none, none, none, none, none, none, none, none, none, none, none] (st.set n (.lst [.int a2, .int b2, .int c2])) := by
    unfold p_law_5
    simp [aLeT, dSeq, dIfS, dNot, dB, dChain, dC, dVar, dRet, dRetN, dNext, dAndV, dOrV, dNotV, dAnd, dOr, dIf, dTru, truD, dBin, dCons, dNil, dTup, dLst, mkL, dCall, dAsg, dAug, dPar, dgName, dgTup, dgCons, dgNil, dDrop, R.bind, R.s, R.b, aLe, aLt, aGt, aGe, aSub, aAdd, aMul, aFdiv, aMod, aEq, aNe, aIsN, aNotN, D.isNon, aAddI, aIx, L2.atI, L2.ixN, beqi, seqA, seqL, seqR, okEq, norm, D.isSc, D.isStr, D.dat, D.dats, D.dep, D.deps, D.eqv, D.eqvs, dRaise, dNeg, bSum, bAbs, bInt, bMax2, bMin2, bLen, intsD, dSl, aSl, dP, dNoP, okMul, fm, fd, dLc, dIt, gdOf, lcD, gdOk, dYes, wipeE, y_law_1, h51, h52, h53]
  have k6 : p_law_6 [x0, some (.ref n), some (.tup [.int y, .int m, .int d]), some (.tup [.int oy, .int om, .int od]), some (.int (wy N)), some (.int (wk N)), some (.int ((N - 1) % 7)), some (.lst [.tup [.int y, .int (wk (E - 7)), .int ((E - 7 - 1) % 7)], .tup [.int y, .int (wk (E - 3)), .int ((E - 3 - 1) % 7)], .tup [.int (wy E), .int (wk E), .int ((E - 1) % 7)]]), none, none, none, none, none, none, none, none, none, none, none, none, none, none, none, none, none, none, none] (st.set n (.lst [.int a2, .int b2, .int c2])) = .nx [x0, some (.ref n), some (.tup [.int y, .int m, .int d]), some (.tup [.int oy, .int om, .int od]), some (.int (wy N)), some (.int (wk N)), some (.int ((N - 1) % 7)), some (.lst [.tup [.int y, .int (wk (E - 7)), .int ((E - 7 - 1) % 7)], .tup [.int y, .int (wk (E - 3)), .int ((E - 3 - 1) % 7)], .tup [.int (wy E), .int (wk E), .int ((E - 1) % 7)]]), none, some (.int (wk (E - 3))), none, none, none, none, none, none, none, none, none, none, none, none, none, none, none, none, none] (st.set n (.lst [.int a2, .int b2, .int c2])) := by
    unfold p_law_6
    by_cases c : wy E = y
    · have zL3 := zL3 c
      rw [zL3, c]
      have hm : max (wk (E - 7)) (wk (E - 3)) = wk (E - 3) := Int.max_eq_right zL2
      simp [aLeT, dSeq, dIfS, dNot, dB, dChain, dC, dVar, dRet, dRetN, dNext, dAndV, dOrV, dNotV, dAnd, dOr, dIf, dTru, truD, dBin, dCons, dNil, dTup, dLst, mkL, dCall, dAsg, dAug, dPar, dgName, dgTup, dgCons, dgNil, dDrop, R.bind, R.s, R.b, aLe, aLt, aGt, aGe, aSub, aAdd, aMul, aFdiv, aMod, aEq, aNe, aIsN, aNotN, D.isNon, aAddI, aIx, L2.atI, L2.ixN, beqi, seqA, seqL, seqR, okEq, norm, D.isSc, D.isStr, D.dat, D.dats, D.dep, D.deps, D.eqv, D.eqvs, dRaise, dNeg, bSum, bAbs, bInt, bMax2, bMin2, bLen, intsD, dSl, aSl, dP, dNoP, okMul, fm, fd, dLc, dIt, gdOf, lcD, gdOk, dYes, wipeE, y_law_2, bMaxA, seqA, seqL, maxI, hm]
    · have hm : max (wk (E - 7)) (wk (E - 3)) = wk (E - 3) := Int.max_eq_right zL2
      simp [aLeT, dSeq, dIfS, dNot, dB, dChain, dC, dVar, dRet, dRetN, dNext, dAndV, dOrV, dNotV, dAnd, dOr, dIf, dTru, truD, dBin, dCons, dNil, dTup, dLst, mkL, dCall, dAsg, dAug, dPar, dgName, dgTup, dgCons, dgNil, dDrop, R.bind, R.s, R.b, aLe, aLt, aGt, aGe, aSub, aAdd, aMul, aFdiv, aMod, aEq, aNe, aIsN, aNotN, D.isNon, aAddI, aIx, L2.atI, L2.ixN, beqi, seqA, seqL, seqR, okEq, norm, D.isSc, D.isStr, D.dat, D.dats, D.dep, D.deps, D.eqv, D.eqvs, dRaise, dNeg, bSum, bAbs, bInt, bMax2, bMin2, bLen, intsD, dSl, aSl, dP, dNoP, okMul, fm, fd, dLc, dIt, gdOf, lcD, gdOk, dYes, wipeE, y_law_2, bMaxA, seqA, seqL, maxI, hm, c]
  have f7 := fun st => e_weeksin hyy (by rw [← hE]; exact mE) st
  rw [← hE] at f7
  have k7 : p_law_7 [x0, some (.ref n), some (.tup [.int y, .int m, .int d]), some (.tup [.int oy, .int om, .int od]), some (.int (wy N)), some (.int (wk N)), some (.int ((N - 1) % 7)), some (.lst [.tup [.int y, .int (wk (E - 7)), .int ((E - 7 - 1) % 7)], .tup [.int y, .int (wk (E - 3)), .int ((E - 3 - 1) % 7)], .tup [.int (wy E), .int (wk E), .int ((E - 1) % 7)]]), none, some (.int (wk (E - 3))), none, none, none, none, none, none, none, none, none, none, none, none, none, none, none, none, none] (st.set n (.lst [.int a2, .int b2, .int c2])) = .nx [x0, some (.ref n), some (.tup [.int y, .int m, .int d]), some (.tup [.int oy, .int om, .int od]), some (.int (wy N)), some (.int (wk N)), some (.int ((N - 1) % 7)), some (.lst [.tup [.int y, .int (wk (E - 7)), .int ((E - 7 - 1) % 7)], .tup [.int y, .int (wk (E - 3)), .int ((E - 3 - 1) % 7)], .tup [.int (wy E), .int (wk E), .int ((E - 1) % 7)]]), none, some (.int (wk (E - 3))), none, none, none, none, none, none, none, none, none, none, none, none, none, none, none, none, none] (st.set n (.lst [.int a2, .int b2, .int c2])) := by
    unfold p_law_7
    simp [aLeT, dSeq, dIfS, dNot, dB, dChain, dC, dVar, dRet, dRetN, dNext, dAndV, dOrV, dNotV, dAnd, dOr, dIf, dTru, truD, dBin, dCons, dNil, dTup, dLst, mkL, dCall, dAsg, dAug, dPar, dgName, dgTup, dgCons, dgNil, dDrop, R.bind, R.s, R.b, aLe, aLt, aGt, aGe, aSub, aAdd, aMul, aFdiv, aMod, aEq, aNe, aIsN, aNotN, D.isNon, aAddI, aIx, L2.atI, L2.ixN, beqi, seqA, seqL, seqR, okEq, norm, D.isSc, D.isStr, D.dat, D.dats, D.dep, D.deps, D.eqv, D.eqvs, dRaise, dNeg, bSum, bAbs, bInt, bMax2, bMin2, bLen, intsD, dSl, aSl, dP, dNoP, okMul, fm, fd, f7]
  have hdm := dim_pos (y := y) (m := m) hmm.1 hmm.2
  obtain ⟨ln, hln⟩ : ∃ ln : Nat, dim y m = (ln : Int) := ⟨(dim y m).toNat, by omega⟩
  have ln1 : 28 ≤ ln := by omega
  have ln2 : ln ≤ 31 := by omega
  have ln3 : ln ≤ 16777216 := by omega
  have f8 := fun st => (e_dim y m st).trans (if_pos V.1)
  rw [hln] at f8
  have r8 : rangeD 1 ((ln : Int) + 1) = (rng 1 ln).map .int := by
    rw [rngD, show ((ln : Int) + 1 - 1).toNat = ln by omega]
  have bn8 : bnd ((ln : Int) + 1) = true := by unfold bnd; simp; omega
  have q8 := fun st => lcM (gt := dgName 8) (fe := y_law_3) (env := [x0, some (.ref n), some (.tup [.int y, .int m, .int d]), some (.tup [.int oy, .int om, .int od]), some (.int (wy N)), some (.int (wk N)), some (.int ((N - 1) % 7)), some (.lst [.tup [.int y, .int (wk (E - 7)), .int ((E - 7 - 1) % 7)], .tup [.int y, .int (wk (E - 3)), .int ((E - 3 - 1) % 7)], .tup [.int (wy E), .int (wk E), .int ((E - 1) % 7)]]), none, some (.int (wk (E - 3))), none, none, none, none, none, none, none, none, none, none, none, none, none, none, none, none, none]) (st := st) .int (fun t : Int => D.tup [.int y, .int m, .int t]) (fun t => [x0, some (.ref n), some (.tup [.int y, .int m, .int d]), some (.tup [.int oy, .int om, .int od]), some (.int (wy N)), some (.int (wk N)), some (.int ((N - 1) % 7)), some (.lst [.tup [.int y, .int (wk (E - 7)), .int ((E - 7 - 1) % 7)], .tup [.int y, .int (wk (E - 3)), .int ((E - 3 - 1) % 7)], .tup [.int (wy E), .int (wk E), .int ((E - 1) % 7)]]), some (.int t), some (.int (wk (E - 3))), none, none, none, none, none, none, none, none, none, none, none, none, none, none, none, none, none]) (rng 1 ln) (fun t ht => by
    refine ⟨rfl, ?_⟩
    unfold y_law_3
    simp [aLeT, dSeq, dIfS, dNot, dB, dChain, dC, dVar, dRet, dRetN, dNext, dAndV, dOrV, dNotV, dAnd, dOr, dIf, dTru, truD, dBin, dCons, dNil, dTup, dLst, mkL, dCall, dAsg, dAug, dPar, dgName, dgTup, dgCons, dgNil, dDrop, R.bind, R.s, R.b, aLe, aLt, aGt, aGe, aSub, aAdd, aMul, aFdiv, aMod, aEq, aNe, aIsN, aNotN, D.isNon, aAddI, aIx, L2.atI, L2.ixN, beqi, seqA, seqL, seqR, okEq, norm, D.isSc, D.isStr, D.dat, D.dats, D.dep, D.deps, D.eqv, D.eqvs, dRaise, dNeg, bSum, bAbs, bInt, bMax2, bMin2, bLen, intsD, dSl, aSl, dP, dNoP, okMul, fm, fd])
  have hr8 : (rng 1 ln).length ≤ 16777216 := by rw [rng_len]; exact ln3
  have m8 : ∀ st, dLc false (dRng2 (dC (.int 1)) (dBin (aAdd false) (dCall f_days_in_month (dCons (dBin aIx (dVar 2) (dC (.int 0))) (dCons (dBin aIx (dVar 2) (dC (.int 1))) (dNil)))) (dC (.int 1)))) (dgName 8) (dYes) y_law_3 [8] [x0, some (.ref n), some (.tup [.int y, .int m, .int d]), some (.tup [.int oy, .int om, .int od]), some (.int (wy N)), some (.int (wk N)), some (.int ((N - 1) % 7)), some (.lst [.tup [.int y, .int (wk (E - 7)), .int ((E - 7 - 1) % 7)], .tup [.int y, .int (wk (E - 3)), .int ((E - 3 - 1) % 7)], .tup [.int (wy E), .int (wk E), .int ((E - 1) % 7)]]), none, some (.int (wk (E - 3))), none, none, none, none, none, none, none, none, none, none, none, none, none, none, none, none, none] st = .ok (.lst ((rng 1 ln).map (fun t : Int => D.tup [.int y, .int m, .int t]))) st := fun st => by
    refine lc_run (ds := (rng 1 ln).map .int) ?_ (by rw [List.length_map]; exact hr8) (q8 st)
    simp [aLeT, dSeq, dIfS, dNot, dB, dChain, dC, dVar, dRet, dRetN, dNext, dAndV, dOrV, dNotV, dAnd, dOr, dIf, dTru, truD, dBin, dCons, dNil, dTup, dLst, mkL, dCall, dAsg, dAug, dPar, dgName, dgTup, dgCons, dgNil, dDrop, R.bind, R.s, R.b, aLe, aLt, aGt, aGe, aSub, aAdd, aMul, aFdiv, aMod, aEq, aNe, aIsN, aNotN, D.isNon, aAddI, aIx, L2.atI, L2.ixN, beqi, seqA, seqL, seqR, okEq, norm, D.isSc, D.isStr, D.dat, D.dats, D.dep, D.deps, D.eqv, D.eqvs, dRaise, dNeg, bSum, bAbs, bInt, bMax2, bMin2, bLen, intsD, dSl, aSl, dP, dNoP, okMul, fm, fd, dRng2, f8, bn8, r8, show bnd 1 = true by decide]
  have k8 : p_law_8 [x0, some (.ref n), some (.tup [.int y, .int m, .int d]), some (.tup [.int oy, .int om, .int od]), some (.int (wy N)), some (.int (wk N)), some (.int ((N - 1) % 7)), some (.lst [.tup [.int y, .int (wk (E - 7)), .int ((E - 7 - 1) % 7)], .tup [.int y, .int (wk (E - 3)), .int ((E - 3 - 1) % 7)], .tup [.int (wy E), .int (wk E), .int ((E - 1) % 7)]]), none, some (.int (wk (E - 3))), none, none, none, none, none, none, none, none, none, none, none, none, none, none, none, none, none] (st.set n (.lst [.int a2, .int b2, .int c2])) = .nx [x0, some (.ref n), some (.tup [.int y, .int m, .int d]), some (.tup [.int oy, .int om, .int od]), some (.int (wy N)), some (.int (wk N)), some (.int ((N - 1) % 7)), some (.lst [.tup [.int y, .int (wk (E - 7)), .int ((E - 7 - 1) % 7)], .tup [.int y, .int (wk (E - 3)), .int ((E - 3 - 1) % 7)], .tup [.int (wy E), .int (wk E), .int ((E - 1) % 7)]]), none, some (.int (wk (E - 3))), none, some (.lst ((rng 1 ln).map (fun t : Int => D.tup [.int y, .int m, .int t]))), none, none, none, none, none, none, none, none, none, none, none, none, none, none, none] (st.set n (.lst [.int a2, .int b2, .int c2])) := by
    unfold p_law_8
    simp [aLeT, dSeq, dIfS, dNot, dB, dChain, dC, dVar, dRet, dRetN, dNext, dAndV, dOrV, dNotV, dAnd, dOr, dIf, dTru, truD, dBin, dCons, dNil, dTup, dLst, mkL, dCall, dAsg, dAug, dPar, dgName, dgTup, dgCons, dgNil, dDrop, R.bind, R.s, R.b, aLe, aLt, aGt, aGe, aSub, aAdd, aMul, aFdiv, aMod, aEq, aNe, aIsN, aNotN, D.isNon, aAddI, aIx, L2.atI, L2.ixN, beqi, seqA, seqL, seqR, okEq, norm, D.isSc, D.isStr, D.dat, D.dats, D.dep, D.deps, D.eqv, D.eqvs, dRaise, dNeg, bSum, bAbs, bInt, bMax2, bMin2, bLen, intsD, dSl, aSl, dP, dNoP, okMul, fm, fd, m8]
  have k9 : p_law_9 [x0, some (.ref n), some (.tup [.int y, .int m, .int d]), some (.tup [.int oy, .int om, .int od]), some (.int (wy N)), some (.int (wk N)), some (.int ((N - 1) % 7)), some (.lst [.tup [.int y, .int (wk (E - 7)), .int ((E - 7 - 1) % 7)], .tup [.int y, .int (wk (E - 3)), .int ((E - 3 - 1) % 7)], .tup [.int (wy E), .int (wk E), .int ((E - 1) % 7)]]), none, some (.int (wk (E - 3))), none, some (.lst ((rng 1 ln).map (fun t : Int => D.tup [.int y, .int m, .int t]))), none, none, none, none, none, none, none, none, none, none, none, none, none, none, none] (st.set n (.lst [.int a2, .int b2, .int c2])) = .nx [x0, some (.ref n), some (.tup [.int y, .int m, .int d]), some (.tup [.int oy, .int om, .int od]), some (.int (wy N)), some (.int (wk N)), some (.int ((N - 1) % 7)), some (.lst [.tup [.int y, .int (wk (E - 7)), .int ((E - 7 - 1) % 7)], .tup [.int y, .int (wk (E - 3)), .int ((E - 3 - 1) % 7)], .tup [.int (wy E), .int (wk E), .int ((E - 1) % 7)]]), none, some (.int (wk (E - 3))), none, some (.lst ((rng 1 ln).map (fun t : Int => D.tup [.int y, .int m, .int t]))), some (.int w), some (.int p), none, none, none, none, none, none, none, none, none, none, none, none, none] (st.set n (.lst [.int a4, .int b4, .int c4])) := by
    unfold p_law_9
    simp [aLeT, dSeq, dIfS, dNot, dB, dChain, dC, dVar, dRet, dRetN, dNext, dAndV, dOrV, dNotV, dAnd, dOr, dIf, dTru, truD, dBin, dCons, dNil, dTup, dLst, mkL, dCall, dAsg, dAug, dPar, dgName, dgTup, dgCons, dgNil, dDrop, R.bind, R.s, R.b, aLe, aLt, aGt, aGe, aSub, aAdd, aMul, aFdiv, aMod, aEq, aNe, aIsN, aNotN, D.isNon, aAddI, aIx, L2.atI, L2.ixN, beqi, seqA, seqL, seqR, okEq, norm, D.isSc, D.isStr, D.dat, D.dats, D.dep, D.deps, D.eqv, D.eqvs, dRaise, dNeg, bSum, bAbs, bInt, bMax2, bMin2, bLen, intsD, dSl, aSl, dP, dNoP, okMul, fm, fd, s3, s4, hp]
  obtain ⟨J, hJ⟩ : ∃ J, J = num y m 1 - 1 := ⟨_, rfl⟩
  have hday : ∀ t, num y m t = J + t := fun t => by rw [num_day, hJ]
  have vday : ∀ t, t ∈ rng 1 ln → Val y m t := fun t ht => by
    have := rng_mem ht
    exact ⟨V.1, by omega, by omega⟩
  obtain ⟨SL, hSL⟩ : ∃ SL, SL = S (fst7 J w) (dim y m) := ⟨_, rfl⟩
  have q10 := fun st => lcF (gt := dgName 8) (ft := (dB (dBin aEq (dBin aMod (dBin (aAdd false) (dCall f_day_number (dCons (dVar 8) (dNil))) (dC (.int 6))) (dC (.int 7))) (dVar 12)))) (fe := y_law_4) (env := [x0, some (.ref n), some (.tup [.int y, .int m, .int d]), some (.tup [.int oy, .int om, .int od]), some (.int (wy N)), some (.int (wk N)), some (.int ((N - 1) % 7)), some (.lst [.tup [.int y, .int (wk (E - 7)), .int ((E - 7 - 1) % 7)], .tup [.int y, .int (wk (E - 3)), .int ((E - 3 - 1) % 7)], .tup [.int (wy E), .int (wk E), .int ((E - 1) % 7)]]), none, some (.int (wk (E - 3))), none, some (.lst ((rng 1 ln).map (fun t : Int => D.tup [.int y, .int m, .int t]))), some (.int w), some (.int p), none, none, none, none, none, none, none, none, none, none, none, none, none]) (st := st) (fun t : Int => D.tup [.int y, .int m, .int t]) (fun t : Int => D.tup [.int y, .int m, .int t]) (fun t => [x0, some (.ref n), some (.tup [.int y, .int m, .int d]), some (.tup [.int oy, .int om, .int od]), some (.int (wy N)), some (.int (wk N)), some (.int ((N - 1) % 7)), some (.lst [.tup [.int y, .int (wk (E - 7)), .int ((E - 7 - 1) % 7)], .tup [.int y, .int (wk (E - 3)), .int ((E - 3 - 1) % 7)], .tup [.int (wy E), .int (wk E), .int ((E - 1) % 7)]]), some (.tup [.int y, .int m, .int t]), some (.int (wk (E - 3))), none, some (.lst ((rng 1 ln).map (fun t : Int => D.tup [.int y, .int m, .int t]))), some (.int w), some (.int p), none, none, none, none, none, none, none, none, none, none, none, none, none]) (fun t => decide ((J + t + 6) % 7 = w)) (rng 1 ln) (fun t ht => by
    have g := fun st => e_num' (vday t ht) st
    rw [hday] at g
    refine ⟨rfl, ?_, fun _ => ?_⟩
    · simp [aLeT, dSeq, dIfS, dNot, dB, dChain, dC, dVar, dRet, dRetN, dNext, dAndV, dOrV, dNotV, dAnd, dOr, dIf, dTru, truD, dBin, dCons, dNil, dTup, dLst, mkL, dCall, dAsg, dAug, dPar, dgName, dgTup, dgCons, dgNil, dDrop, R.bind, R.s, R.b, aLe, aLt, aGt, aGe, aSub, aAdd, aMul, aFdiv, aMod, aEq, aNe, aIsN, aNotN, D.isNon, aAddI, aIx, L2.atI, L2.ixN, beqi, seqA, seqL, seqR, okEq, norm, D.isSc, D.isStr, D.dat, D.dats, D.dep, D.deps, D.eqv, D.eqvs, dRaise, dNeg, bSum, bAbs, bInt, bMax2, bMin2, bLen, intsD, dSl, aSl, dP, dNoP, okMul, fm, fd, g, fm7]
    · unfold y_law_4
      simp [aLeT, dSeq, dIfS, dNot, dB, dChain, dC, dVar, dRet, dRetN, dNext, dAndV, dOrV, dNotV, dAnd, dOr, dIf, dTru, truD, dBin, dCons, dNil, dTup, dLst, mkL, dCall, dAsg, dAug, dPar, dgName, dgTup, dgCons, dgNil, dDrop, R.bind, R.s, R.b, aLe, aLt, aGt, aGe, aSub, aAdd, aMul, aFdiv, aMod, aEq, aNe, aIsN, aNotN, D.isNon, aAddI, aIx, L2.atI, L2.ixN, beqi, seqA, seqL, seqR, okEq, norm, D.isSc, D.isStr, D.dat, D.dats, D.dep, D.deps, D.eqv, D.eqvs, dRaise, dNeg, bSum, bAbs, bInt, bMax2, bMin2, bLen, intsD, dSl, aSl, dP, dNoP, okMul, fm, fd])
  rw [show (rng 1 ln).filter (fun t => decide ((J + t + 6) % 7 = w)) = SL by rw [hSL, ← same_ok hw, hln]; rfl] at q10
  have hr10 : ((rng 1 ln).map (fun t : Int => D.tup [.int y, .int m, .int t])).length ≤ 16777216 := by rw [List.length_map]; exact hr8
  have m10 : ∀ st, dLc false (dIt (dVar 11)) (dgName 8) (dB (dBin aEq (dBin aMod (dBin (aAdd false) (dCall f_day_number (dCons (dVar 8) (dNil))) (dC (.int 6))) (dC (.int 7))) (dVar 12))) y_law_4 [8] [x0, some (.ref n), some (.tup [.int y, .int m, .int d]), some (.tup [.int oy, .int om, .int od]), some (.int (wy N)), some (.int (wk N)), some (.int ((N - 1) % 7)), some (.lst [.tup [.int y, .int (wk (E - 7)), .int ((E - 7 - 1) % 7)], .tup [.int y, .int (wk (E - 3)), .int ((E - 3 - 1) % 7)], .tup [.int (wy E), .int (wk E), .int ((E - 1) % 7)]]), none, some (.int (wk (E - 3))), none, some (.lst ((rng 1 ln).map (fun t : Int => D.tup [.int y, .int m, .int t]))), some (.int w), some (.int p), none, none, none, none, none, none, none, none, none, none, none, none, none] st = .ok (.lst (SL.map (fun t : Int => D.tup [.int y, .int m, .int t]))) st := fun st => by
    refine lc_run (ds := (rng 1 ln).map (fun t : Int => D.tup [.int y, .int m, .int t])) rfl hr10 (q10 st)
  have k10 : p_law_10 [x0, some (.ref n), some (.tup [.int y, .int m, .int d]), some (.tup [.int oy, .int om, .int od]), some (.int (wy N)), some (.int (wk N)), some (.int ((N - 1) % 7)), some (.lst [.tup [.int y, .int (wk (E - 7)), .int ((E - 7 - 1) % 7)], .tup [.int y, .int (wk (E - 3)), .int ((E - 3 - 1) % 7)], .tup [.int (wy E), .int (wk E), .int ((E - 1) % 7)]]), none, some (.int (wk (E - 3))), none, some (.lst ((rng 1 ln).map (fun t : Int => D.tup [.int y, .int m, .int t]))), some (.int w), some (.int p), none, none, none, none, none, none, none, none, none, none, none, none, none] (st.set n (.lst [.int a4, .int b4, .int c4])) = .nx [x0, some (.ref n), some (.tup [.int y, .int m, .int d]), some (.tup [.int oy, .int om, .int od]), some (.int (wy N)), some (.int (wk N)), some (.int ((N - 1) % 7)), some (.lst [.tup [.int y, .int (wk (E - 7)), .int ((E - 7 - 1) % 7)], .tup [.int y, .int (wk (E - 3)), .int ((E - 3 - 1) % 7)], .tup [.int (wy E), .int (wk E), .int ((E - 1) % 7)]]), none, some (.int (wk (E - 3))), none, some (.lst ((rng 1 ln).map (fun t : Int => D.tup [.int y, .int m, .int t]))), some (.int w), some (.int p), some (.lst (SL.map (fun t : Int => D.tup [.int y, .int m, .int t]))), none, none, none, none, none, none, none, none, none, none, none, none] (st.set n (.lst [.int a4, .int b4, .int c4])) := by
    unfold p_law_10
    simp [aLeT, dSeq, dIfS, dNot, dB, dChain, dC, dVar, dRet, dRetN, dNext, dAndV, dOrV, dNotV, dAnd, dOr, dIf, dTru, truD, dBin, dCons, dNil, dTup, dLst, mkL, dCall, dAsg, dAug, dPar, dgName, dgTup, dgCons, dgNil, dDrop, R.bind, R.s, R.b, aLe, aLt, aGt, aGe, aSub, aAdd, aMul, aFdiv, aMod, aEq, aNe, aIsN, aNotN, D.isNon, aAddI, aIx, L2.atI, L2.ixN, beqi, seqA, seqL, seqR, okEq, norm, D.isSc, D.isStr, D.dat, D.dats, D.dep, D.deps, D.eqv, D.eqvs, dRaise, dNeg, bSum, bAbs, bInt, bMax2, bMin2, bLen, intsD, dSl, aSl, dP, dNoP, okMul, fm, fd, m10]
  have f12 := fun st => e_nth (y := y) (m := m) (p := p) V.1 hw st
  rw [← hJ, ← hSL] at f12
  have hab : (if -p > p then -p else p) = (if p < 0 then -p else p) := by split <;> split <;> omega
  obtain ⟨DU, k11, k12⟩ : ∃ DU, p_law_11 [x0, some (.ref n), some (.tup [.int y, .int m, .int d]), some (.tup [.int oy, .int om, .int od]), some (.int (wy N)), some (.int (wk N)), some (.int ((N - 1) % 7)), some (.lst [.tup [.int y, .int (wk (E - 7)), .int ((E - 7 - 1) % 7)], .tup [.int y, .int (wk (E - 3)), .int ((E - 3 - 1) % 7)], .tup [.int (wy E), .int (wk E), .int ((E - 1) % 7)]]), none, some (.int (wk (E - 3))), none, some (.lst ((rng 1 ln).map (fun t : Int => D.tup [.int y, .int m, .int t]))), some (.int w), some (.int p), some (.lst (SL.map (fun t : Int => D.tup [.int y, .int m, .int t]))), none, none, none, none, none, none, none, none, none, none, none, none] (st.set n (.lst [.int a4, .int b4, .int c4])) = .nx [x0, some (.ref n), some (.tup [.int y, .int m, .int d]), some (.tup [.int oy, .int om, .int od]), some (.int (wy N)), some (.int (wk N)), some (.int ((N - 1) % 7)), some (.lst [.tup [.int y, .int (wk (E - 7)), .int ((E - 7 - 1) % 7)], .tup [.int y, .int (wk (E - 3)), .int ((E - 3 - 1) % 7)], .tup [.int (wy E), .int (wk E), .int ((E - 1) % 7)]]), none, some (.int (wk (E - 3))), none, some (.lst ((rng 1 ln).map (fun t : Int => D.tup [.int y, .int m, .int t]))), some (.int w), some (.int p), some (.lst (SL.map (fun t : Int => D.tup [.int y, .int m, .int t]))), some DU, none, none, none, none, none, none, none, none, none, none, none] (st.set n (.lst [.int a4, .int b4, .int c4])) ∧ p_law_12 [x0, some (.ref n), some (.tup [.int y, .int m, .int d]), some (.tup [.int oy, .int om, .int od]), some (.int (wy N)), some (.int (wk N)), some (.int ((N - 1) % 7)), some (.lst [.tup [.int y, .int (wk (E - 7)), .int ((E - 7 - 1) % 7)], .tup [.int y, .int (wk (E - 3)), .int ((E - 3 - 1) % 7)], .tup [.int (wy E), .int (wk E), .int ((E - 1) % 7)]]), none, some (.int (wk (E - 3))), none, some (.lst ((rng 1 ln).map (fun t : Int => D.tup [.int y, .int m, .int t]))), some (.int w), some (.int p), some (.lst (SL.map (fun t : Int => D.tup [.int y, .int m, .int t]))), some DU, none, none, none, none, none, none, none, none, none, none, none] (st.set n (.lst [.int a4, .int b4, .int c4])) = .nx [x0, some (.ref n), some (.tup [.int y, .int m, .int d]), some (.tup [.int oy, .int om, .int od]), some (.int (wy N)), some (.int (wk N)), some (.int ((N - 1) % 7)), some (.lst [.tup [.int y, .int (wk (E - 7)), .int ((E - 7 - 1) % 7)], .tup [.int y, .int (wk (E - 3)), .int ((E - 3 - 1) % 7)], .tup [.int (wy E), .int (wk E), .int ((E - 1) % 7)]]), none, some (.int (wk (E - 3))), none, some (.lst ((rng 1 ln).map (fun t : Int => D.tup [.int y, .int m, .int t]))), some (.int w), some (.int p), some (.lst (SL.map (fun t : Int => D.tup [.int y, .int m, .int t]))), some DU, none, none, none, none, none, none, none, none, none, none, none] (st.set n (.lst [.int a4, .int b4, .int c4])) := by
    by_cases c1 : p = 0 ∨ (if p < 0 then -p else p) > (SL.length : Int)
    · refine ⟨.str "WeekError", ?_, ?_⟩
      · unfold p_law_11
        by_cases c2 : p = 0
        · simp [aLeT, dSeq, dIfS, dNot, dB, dChain, dC, dVar, dRet, dRetN, dNext, dAndV, dOrV, dNotV, dAnd, dOr, dIf, dTru, truD, dBin, dCons, dNil, dTup, dLst, mkL, dCall, dAsg, dAug, dPar, dgName, dgTup, dgCons, dgNil, dDrop, R.bind, R.s, R.b, aLe, aLt, aGt, aGe, aSub, aAdd, aMul, aFdiv, aMod, aEq, aNe, aIsN, aNotN, D.isNon, aAddI, aIx, L2.atI, L2.ixN, beqi, seqA, seqL, seqR, okEq, norm, D.isSc, D.isStr, D.dat, D.dats, D.dep, D.deps, D.eqv, D.eqvs, dRaise, dNeg, bSum, bAbs, bInt, bMax2, bMin2, bLen, intsD, dSl, aSl, dP, dNoP, okMul, fm, fd, c2]
        · have c3 : (SL.length : Int) < if p < 0 then -p else p := c1.resolve_left c2
          simp [aLeT, dSeq, dIfS, dNot, dB, dChain, dC, dVar, dRet, dRetN, dNext, dAndV, dOrV, dNotV, dAnd, dOr, dIf, dTru, truD, dBin, dCons, dNil, dTup, dLst, mkL, dCall, dAsg, dAug, dPar, dgName, dgTup, dgCons, dgNil, dDrop, R.bind, R.s, R.b, aLe, aLt, aGt, aGe, aSub, aAdd, aMul, aFdiv, aMod, aEq, aNe, aIsN, aNotN, D.isNon, aAddI, aIx, L2.atI, L2.ixN, beqi, seqA, seqL, seqR, okEq, norm, D.isSc, D.isStr, D.dat, D.dats, D.dep, D.deps, D.eqv, D.eqvs, dRaise, dNeg, bSum, bAbs, bInt, bLen, intsD, dSl, aSl, dP, dNoP, okMul, fm, fd, max_pp, hab, c2, c3]
      · have f12 := fun st => (f12 st).trans (if_pos c1)
        unfold p_law_12
        simp [aLeT, dSeq, dIfS, dNot, dB, dChain, dC, dVar, dRet, dRetN, dNext, dAndV, dOrV, dNotV, dAnd, dOr, dIf, dTru, truD, dBin, dCons, dNil, dTup, dLst, mkL, dCall, dAsg, dAug, dPar, dgName, dgTup, dgCons, dgNil, dDrop, R.bind, R.s, R.b, aLe, aLt, aGt, aGe, aSub, aAdd, aMul, aFdiv, aMod, aEq, aNe, aIsN, aNotN, D.isNon, aAddI, aIx, L2.atI, L2.ixN, beqi, seqA, seqL, seqR, okEq, norm, D.isSc, D.isStr, D.dat, D.dats, D.dep, D.deps, D.eqv, D.eqvs, dRaise, dNeg, bSum, bAbs, bInt, bMax2, bMin2, bLen, intsD, dSl, aSl, dP, dNoP, okMul, fm, fd, dTold, f12, ct, se, sdat]
    · have c2 : ¬ p = 0 := fun z => c1 (.inl z)
      have c3 : ¬ (SL.length : Int) < if p < 0 then -p else p := fun z => c1 (.inr z)
      have f12 := fun st => (f12 st).trans (if_neg c1)
      by_cases c4 : 0 < p
      · have c5 : ¬ p < 0 := by omega
        rw [if_neg c5] at c3
        obtain ⟨t, ht⟩ := atI_some SL (p - 1) ⟨by omega, by omega⟩
        rw [if_pos c4, ht] at f12
        have f12 : ∀ st, f_nth_weekday [.int y, .int m, .int p, .int w] st = .ok (.tup [.int y, .int m, .int t]) st := f12
        refine ⟨.tup [.int y, .int m, .int t], ?_, ?_⟩
        · unfold p_law_11
          simp [aLeT, dSeq, dIfS, dNot, dB, dChain, dC, dVar, dRet, dRetN, dNext, dAndV, dOrV, dNotV, dAnd, dOr, dIf, dTru, truD, dBin, dCons, dNil, dTup, dLst, mkL, dCall, dAsg, dAug, dPar, dgName, dgTup, dgCons, dgNil, dDrop, R.bind, R.s, R.b, aLe, aLt, aGt, aGe, aSub, aAdd, aMul, aFdiv, aMod, aEq, aNe, aIsN, aNotN, D.isNon, aAddI, aIx, L2.ixN, beqi, seqA, seqL, seqR, okEq, norm, D.isSc, D.isStr, D.dat, D.dats, D.dep, D.deps, D.eqv, D.eqvs, dRaise, dNeg, bSum, bAbs, bInt, bLen, intsD, dSl, aSl, dP, dNoP, okMul, fm, fd, max_pp, hab, c2, c3, c4, c5, atI_map, ht]
        · unfold p_law_12
          simp [aLeT, dSeq, dIfS, dNot, dB, dChain, dC, dVar, dRet, dRetN, dNext, dAndV, dOrV, dNotV, dAnd, dOr, dIf, dTru, truD, dBin, dCons, dNil, dTup, dLst, mkL, dCall, dAsg, dAug, dPar, dgName, dgTup, dgCons, dgNil, dDrop, R.bind, R.s, R.b, aLe, aLt, aGt, aGe, aSub, aAdd, aMul, aFdiv, aMod, aEq, aNe, aIsN, aNotN, D.isNon, aAddI, aIx, L2.atI, L2.ixN, beqi, seqA, seqL, seqR, okEq, norm, D.isSc, D.isStr, D.dat, D.dats, D.dep, D.deps, D.eqv, D.eqvs, dRaise, dNeg, bSum, bAbs, bInt, bMax2, bMin2, bLen, intsD, dSl, aSl, dP, dNoP, okMul, fm, fd, dTold, f12]
      · have c5 : p < 0 := by omega
        rw [if_pos c5] at c3
        obtain ⟨t, ht⟩ := atI_some SL p ⟨by omega, by omega⟩
        rw [if_neg c4, ht] at f12
        have f12 : ∀ st, f_nth_weekday [.int y, .int m, .int p, .int w] st = .ok (.tup [.int y, .int m, .int t]) st := f12
        refine ⟨.tup [.int y, .int m, .int t], ?_, ?_⟩
        · unfold p_law_11
          simp [aLeT, dSeq, dIfS, dNot, dB, dChain, dC, dVar, dRet, dRetN, dNext, dAndV, dOrV, dNotV, dAnd, dOr, dIf, dTru, truD, dBin, dCons, dNil, dTup, dLst, mkL, dCall, dAsg, dAug, dPar, dgName, dgTup, dgCons, dgNil, dDrop, R.bind, R.s, R.b, aLe, aLt, aGt, aGe, aSub, aAdd, aMul, aFdiv, aMod, aEq, aNe, aIsN, aNotN, D.isNon, aAddI, aIx, L2.ixN, beqi, seqA, seqL, seqR, okEq, norm, D.isSc, D.isStr, D.dat, D.dats, D.dep, D.deps, D.eqv, D.eqvs, dRaise, dNeg, bSum, bAbs, bInt, bLen, intsD, dSl, aSl, dP, dNoP, okMul, fm, fd, max_pp, hab, c2, c3, c4, c5, atI_map, ht]
        · unfold p_law_12
          simp [aLeT, dSeq, dIfS, dNot, dB, dChain, dC, dVar, dRet, dRetN, dNext, dAndV, dOrV, dNotV, dAnd, dOr, dIf, dTru, truD, dBin, dCons, dNil, dTup, dLst, mkL, dCall, dAsg, dAug, dPar, dgName, dgTup, dgCons, dgNil, dDrop, R.bind, R.s, R.b, aLe, aLt, aGt, aGe, aSub, aAdd, aMul, aFdiv, aMod, aEq, aNe, aIsN, aNotN, D.isNon, aAddI, aIx, L2.atI, L2.ixN, beqi, seqA, seqL, seqR, okEq, norm, D.isSc, D.isStr, D.dat, D.dats, D.dep, D.deps, D.eqv, D.eqvs, dRaise, dNeg, bSum, bAbs, bInt, bMax2, bMin2, bLen, intsD, dSl, aSl, dP, dNoP, okMul, fm, fd, dTold, f12]
  have k13 : p_law_13 [x0, some (.ref n), some (.tup [.int y, .int m, .int d]), some (.tup [.int oy, .int om, .int od]), some (.int (wy N)), some (.int (wk N)), some (.int ((N - 1) % 7)), some (.lst [.tup [.int y, .int (wk (E - 7)), .int ((E - 7 - 1) % 7)], .tup [.int y, .int (wk (E - 3)), .int ((E - 3 - 1) % 7)], .tup [.int (wy E), .int (wk E), .int ((E - 1) % 7)]]), none, some (.int (wk (E - 3))), none, some (.lst ((rng 1 ln).map (fun t : Int => D.tup [.int y, .int m, .int t]))), some (.int w), some (.int p), some (.lst (SL.map (fun t : Int => D.tup [.int y, .int m, .int t]))), some DU, none, none, none, none, none, none, none, none, none, none, none] (st.set n (.lst [.int a4, .int b4, .int c4])) = .nx [x0, some (.ref n), some (.tup [.int y, .int m, .int d]), some (.tup [.int oy, .int om, .int od]), some (.int (wy N)), some (.int (wk N)), some (.int ((N - 1) % 7)), some (.lst [.tup [.int y, .int (wk (E - 7)), .int ((E - 7 - 1) % 7)], .tup [.int y, .int (wk (E - 3)), .int ((E - 3 - 1) % 7)], .tup [.int (wy E), .int (wk E), .int ((E - 1) % 7)]]), none, some (.int (wk (E - 3))), none, some (.lst ((rng 1 ln).map (fun t : Int => D.tup [.int y, .int m, .int t]))), some (.int w), some (.int p), some (.lst (SL.map (fun t : Int => D.tup [.int y, .int m, .int t]))), some DU, some (.int N), none, none, none, none, none, none, none, none, none, none] (st.set n (.lst [.int a4, .int b4, .int c4])) := by
    unfold p_law_13
    simp [aLeT, dSeq, dIfS, dNot, dB, dChain, dC, dVar, dRet, dRetN, dNext, dAndV, dOrV, dNotV, dAnd, dOr, dIf, dTru, truD, dBin, dCons, dNil, dTup, dLst, mkL, dCall, dAsg, dAug, dPar, dgName, dgTup, dgCons, dgNil, dDrop, R.bind, R.s, R.b, aLe, aLt, aGt, aGe, aSub, aAdd, aMul, aFdiv, aMod, aEq, aNe, aIsN, aNotN, D.isNon, aAddI, aIx, L2.atI, L2.ixN, beqi, seqA, seqL, seqR, okEq, norm, D.isSc, D.isStr, D.dat, D.dats, D.dep, D.deps, D.eqv, D.eqvs, dRaise, dNeg, bSum, bAbs, bInt, bMax2, bMin2, bLen, intsD, dSl, aSl, dP, dNoP, okMul, fm, fd, f0]
  obtain ⟨l1, hl1⟩ := first7 (N := N) hw
  obtain ⟨l2, hl2⟩ := first7 (N := N - 6) hw
  obtain ⟨B1, hB1⟩ : ∃ B, B = N + (w - (N - 1) % 7) % 7 := ⟨_, rfl⟩
  obtain ⟨B2, hB2⟩ : ∃ B, B = N - ((N - 1) % 7 - w) % 7 := ⟨_, rfl⟩
  rw [← hB1] at hl1
  rw [show N - 6 + (w - (N - 6 - 1) % 7) % 7 = B2 by rw [hB2]; omega] at hl2
  have r14a : rangeD N (N + 7) = (rng N 7).map .int := by rw [rngD, show (N + 7 - N).toNat = 7 by omega]
  have r14b : rangeD (N - 6) (N + 1) = (rng (N - 6) 7).map .int := by rw [rngD, show (N + 1 - (N - 6)).toNat = 7 by omega]
  have bN : ∀ i : Int, -100 ≤ i → i ≤ 100 → bnd (N + i) = true := fun i h1 h2 => by unfold bnd; simp; omega
  have bN0 : bnd N = true := by unfold bnd; simp; omega
  have bN6 : bnd (N - 6) = true := by unfold bnd; simp; omega
  have q14a := fun st => lcF (gt := dgName 19) (ft := (dB (dBin aEq (dBin aMod (dBin (aAdd false) (dVar 19) (dC (.int 6))) (dC (.int 7))) (dVar 12)))) (fe := y_law_5) (env := [x0, some (.ref n), some (.tup [.int y, .int m, .int d]), some (.tup [.int oy, .int om, .int od]), some (.int (wy N)), some (.int (wk N)), some (.int ((N - 1) % 7)), some (.lst [.tup [.int y, .int (wk (E - 7)), .int ((E - 7 - 1) % 7)], .tup [.int y, .int (wk (E - 3)), .int ((E - 3 - 1) % 7)], .tup [.int (wy E), .int (wk E), .int ((E - 1) % 7)]]), none, some (.int (wk (E - 3))), none, some (.lst ((rng 1 ln).map (fun t : Int => D.tup [.int y, .int m, .int t]))), some (.int w), some (.int p), some (.lst (SL.map (fun t : Int => D.tup [.int y, .int m, .int t]))), some DU, some (.int N), none, none, none, none, none, none, none, none, none, none]) (st := st) .int .int (fun k => [x0, some (.ref n), some (.tup [.int y, .int m, .int d]), some (.tup [.int oy, .int om, .int od]), some (.int (wy N)), some (.int (wk N)), some (.int ((N - 1) % 7)), some (.lst [.tup [.int y, .int (wk (E - 7)), .int ((E - 7 - 1) % 7)], .tup [.int y, .int (wk (E - 3)), .int ((E - 3 - 1) % 7)], .tup [.int (wy E), .int (wk E), .int ((E - 1) % 7)]]), none, some (.int (wk (E - 3))), none, some (.lst ((rng 1 ln).map (fun t : Int => D.tup [.int y, .int m, .int t]))), some (.int w), some (.int p), some (.lst (SL.map (fun t : Int => D.tup [.int y, .int m, .int t]))), some DU, some (.int N), none, none, some (.int k), none, none, none, none, none, none, none]) (fun k => decide ((k + 6) % 7 = w)) (rng N 7) (fun k hk => by
    refine ⟨rfl, ?_, fun _ => ?_⟩
    · simp [aLeT, dSeq, dIfS, dNot, dB, dChain, dC, dVar, dRet, dRetN, dNext, dAndV, dOrV, dNotV, dAnd, dOr, dIf, dTru, truD, dBin, dCons, dNil, dTup, dLst, mkL, dCall, dAsg, dAug, dPar, dgName, dgTup, dgCons, dgNil, dDrop, R.bind, R.s, R.b, aLe, aLt, aGt, aGe, aSub, aAdd, aMul, aFdiv, aMod, aEq, aNe, aIsN, aNotN, D.isNon, aAddI, aIx, L2.atI, L2.ixN, beqi, seqA, seqL, seqR, okEq, norm, D.isSc, D.isStr, D.dat, D.dats, D.dep, D.deps, D.eqv, D.eqvs, dRaise, dNeg, bSum, bAbs, bInt, bMax2, bMin2, bLen, intsD, dSl, aSl, dP, dNoP, okMul, fm, fd, fm7]
    · unfold y_law_5
      simp [aLeT, dSeq, dIfS, dNot, dB, dChain, dC, dVar, dRet, dRetN, dNext, dAndV, dOrV, dNotV, dAnd, dOr, dIf, dTru, truD, dBin, dCons, dNil, dTup, dLst, mkL, dCall, dAsg, dAug, dPar, dgName, dgTup, dgCons, dgNil, dDrop, R.bind, R.s, R.b, aLe, aLt, aGt, aGe, aSub, aAdd, aMul, aFdiv, aMod, aEq, aNe, aIsN, aNotN, D.isNon, aAddI, aIx, L2.atI, L2.ixN, beqi, seqA, seqL, seqR, okEq, norm, D.isSc, D.isStr, D.dat, D.dats, D.dep, D.deps, D.eqv, D.eqvs, dRaise, dNeg, bSum, bAbs, bInt, bMax2, bMin2, bLen, intsD, dSl, aSl, dP, dNoP, okMul, fm, fd])
  have q14b := fun st => lcF (gt := dgName 19) (ft := (dB (dBin aEq (dBin aMod (dBin (aAdd false) (dVar 19) (dC (.int 6))) (dC (.int 7))) (dVar 12)))) (fe := y_law_6) (env := [x0, some (.ref n), some (.tup [.int y, .int m, .int d]), some (.tup [.int oy, .int om, .int od]), some (.int (wy N)), some (.int (wk N)), some (.int ((N - 1) % 7)), some (.lst [.tup [.int y, .int (wk (E - 7)), .int ((E - 7 - 1) % 7)], .tup [.int y, .int (wk (E - 3)), .int ((E - 3 - 1) % 7)], .tup [.int (wy E), .int (wk E), .int ((E - 1) % 7)]]), none, some (.int (wk (E - 3))), none, some (.lst ((rng 1 ln).map (fun t : Int => D.tup [.int y, .int m, .int t]))), some (.int w), some (.int p), some (.lst (SL.map (fun t : Int => D.tup [.int y, .int m, .int t]))), some DU, some (.int N), none, none, none, none, none, none, none, none, none, none]) (st := st) .int .int (fun k => [x0, some (.ref n), some (.tup [.int y, .int m, .int d]), some (.tup [.int oy, .int om, .int od]), some (.int (wy N)), some (.int (wk N)), some (.int ((N - 1) % 7)), some (.lst [.tup [.int y, .int (wk (E - 7)), .int ((E - 7 - 1) % 7)], .tup [.int y, .int (wk (E - 3)), .int ((E - 3 - 1) % 7)], .tup [.int (wy E), .int (wk E), .int ((E - 1) % 7)]]), none, some (.int (wk (E - 3))), none, some (.lst ((rng 1 ln).map (fun t : Int => D.tup [.int y, .int m, .int t]))), some (.int w), some (.int p), some (.lst (SL.map (fun t : Int => D.tup [.int y, .int m, .int t]))), some DU, some (.int N), none, none, some (.int k), none, none, none, none, none, none, none]) (fun k => decide ((k + 6) % 7 = w)) (rng (N - 6) 7) (fun k hk => by
    refine ⟨rfl, ?_, fun _ => ?_⟩
    · simp [aLeT, dSeq, dIfS, dNot, dB, dChain, dC, dVar, dRet, dRetN, dNext, dAndV, dOrV, dNotV, dAnd, dOr, dIf, dTru, truD, dBin, dCons, dNil, dTup, dLst, mkL, dCall, dAsg, dAug, dPar, dgName, dgTup, dgCons, dgNil, dDrop, R.bind, R.s, R.b, aLe, aLt, aGt, aGe, aSub, aAdd, aMul, aFdiv, aMod, aEq, aNe, aIsN, aNotN, D.isNon, aAddI, aIx, L2.atI, L2.ixN, beqi, seqA, seqL, seqR, okEq, norm, D.isSc, D.isStr, D.dat, D.dats, D.dep, D.deps, D.eqv, D.eqvs, dRaise, dNeg, bSum, bAbs, bInt, bMax2, bMin2, bLen, intsD, dSl, aSl, dP, dNoP, okMul, fm, fd, fm7]
    · unfold y_law_6
      simp [aLeT, dSeq, dIfS, dNot, dB, dChain, dC, dVar, dRet, dRetN, dNext, dAndV, dOrV, dNotV, dAnd, dOr, dIf, dTru, truD, dBin, dCons, dNil, dTup, dLst, mkL, dCall, dAsg, dAug, dPar, dgName, dgTup, dgCons, dgNil, dDrop, R.bind, R.s, R.b, aLe, aLt, aGt, aGe, aSub, aAdd, aMul, aFdiv, aMod, aEq, aNe, aIsN, aNotN, D.isNon, aAddI, aIx, L2.atI, L2.ixN, beqi, seqA, seqL, seqR, okEq, norm, D.isSc, D.isStr, D.dat, D.dats, D.dep, D.deps, D.eqv, D.eqvs, dRaise, dNeg, bSum, bAbs, bInt, bMax2, bMin2, bLen, intsD, dSl, aSl, dP, dNoP, okMul, fm, fd])
  rw [hl1] at q14a
  rw [hl2] at q14b
  have m14a : ∀ st, dLc false (dRng2 (dVar 16) (dBin (aAdd false) (dVar 16) (dC (.int 7)))) (dgName 19) (dB (dBin aEq (dBin aMod (dBin (aAdd false) (dVar 19) (dC (.int 6))) (dC (.int 7))) (dVar 12))) y_law_5 [19] [x0, some (.ref n), some (.tup [.int y, .int m, .int d]), some (.tup [.int oy, .int om, .int od]), some (.int (wy N)), some (.int (wk N)), some (.int ((N - 1) % 7)), some (.lst [.tup [.int y, .int (wk (E - 7)), .int ((E - 7 - 1) % 7)], .tup [.int y, .int (wk (E - 3)), .int ((E - 3 - 1) % 7)], .tup [.int (wy E), .int (wk E), .int ((E - 1) % 7)]]), none, some (.int (wk (E - 3))), none, some (.lst ((rng 1 ln).map (fun t : Int => D.tup [.int y, .int m, .int t]))), some (.int w), some (.int p), some (.lst (SL.map (fun t : Int => D.tup [.int y, .int m, .int t]))), some DU, some (.int N), none, none, none, none, none, none, none, none, none, none] st = .ok (.lst ((B1 :: l1).map .int)) st := fun st => by
    refine lc_run (ds := (rng N 7).map .int) ?_ (by rw [List.length_map, rng_len]; decide) (q14a st)
    simp [aLeT, dSeq, dIfS, dNot, dB, dChain, dC, dVar, dRet, dRetN, dNext, dAndV, dOrV, dNotV, dAnd, dOr, dIf, dTru, truD, dBin, dCons, dNil, dTup, dLst, mkL, dCall, dAsg, dAug, dPar, dgName, dgTup, dgCons, dgNil, dDrop, R.bind, R.s, R.b, aLe, aLt, aGt, aGe, aSub, aAdd, aMul, aFdiv, aMod, aEq, aNe, aIsN, aNotN, D.isNon, aAddI, aIx, L2.atI, L2.ixN, beqi, seqA, seqL, seqR, okEq, norm, D.isSc, D.isStr, D.dat, D.dats, D.dep, D.deps, D.eqv, D.eqvs, dRaise, dNeg, bSum, bAbs, bInt, bMax2, bMin2, bLen, intsD, dSl, aSl, dP, dNoP, okMul, fm, fd, dRng2, bN0, bN 7 (by decide) (by decide), r14a]
  have m14b : ∀ st, dLc false (dRng2 (dBin aSub (dVar 16) (dC (.int 6))) (dBin (aAdd false) (dVar 16) (dC (.int 1)))) (dgName 19) (dB (dBin aEq (dBin aMod (dBin (aAdd false) (dVar 19) (dC (.int 6))) (dC (.int 7))) (dVar 12))) y_law_6 [19] [x0, some (.ref n), some (.tup [.int y, .int m, .int d]), some (.tup [.int oy, .int om, .int od]), some (.int (wy N)), some (.int (wk N)), some (.int ((N - 1) % 7)), some (.lst [.tup [.int y, .int (wk (E - 7)), .int ((E - 7 - 1) % 7)], .tup [.int y, .int (wk (E - 3)), .int ((E - 3 - 1) % 7)], .tup [.int (wy E), .int (wk E), .int ((E - 1) % 7)]]), none, some (.int (wk (E - 3))), none, some (.lst ((rng 1 ln).map (fun t : Int => D.tup [.int y, .int m, .int t]))), some (.int w), some (.int p), some (.lst (SL.map (fun t : Int => D.tup [.int y, .int m, .int t]))), some DU, some (.int N), none, none, none, none, none, none, none, none, none, none] st = .ok (.lst ((B2 :: l2).map .int)) st := fun st => by
    refine lc_run (ds := (rng (N - 6) 7).map .int) ?_ (by rw [List.length_map, rng_len]; decide) (q14b st)
    simp [aLeT, dSeq, dIfS, dNot, dB, dChain, dC, dVar, dRet, dRetN, dNext, dAndV, dOrV, dNotV, dAnd, dOr, dIf, dTru, truD, dBin, dCons, dNil, dTup, dLst, mkL, dCall, dAsg, dAug, dPar, dgName, dgTup, dgCons, dgNil, dDrop, R.bind, R.s, R.b, aLe, aLt, aGt, aGe, aSub, aAdd, aMul, aFdiv, aMod, aEq, aNe, aIsN, aNotN, D.isNon, aAddI, aIx, L2.atI, L2.ixN, beqi, seqA, seqL, seqR, okEq, norm, D.isSc, D.isStr, D.dat, D.dats, D.dep, D.deps, D.eqv, D.eqvs, dRaise, dNeg, bSum, bAbs, bInt, bMax2, bMin2, bLen, intsD, dSl, aSl, dP, dNoP, okMul, fm, fd, dRng2, bN6, bN 1 (by decide) (by decide), r14b]
  have k14 : p_law_14 [x0, some (.ref n), some (.tup [.int y, .int m, .int d]), some (.tup [.int oy, .int om, .int od]), some (.int (wy N)), some (.int (wk N)), some (.int ((N - 1) % 7)), some (.lst [.tup [.int y, .int (wk (E - 7)), .int ((E - 7 - 1) % 7)], .tup [.int y, .int (wk (E - 3)), .int ((E - 3 - 1) % 7)], .tup [.int (wy E), .int (wk E), .int ((E - 1) % 7)]]), none, some (.int (wk (E - 3))), none, some (.lst ((rng 1 ln).map (fun t : Int => D.tup [.int y, .int m, .int t]))), some (.int w), some (.int p), some (.lst (SL.map (fun t : Int => D.tup [.int y, .int m, .int t]))), some DU, some (.int N), none, none, none, none, none, none, none, none, none, none] (st.set n (.lst [.int a4, .int b4, .int c4])) = .nx [x0, some (.ref n), some (.tup [.int y, .int m, .int d]), some (.tup [.int oy, .int om, .int od]), some (.int (wy N)), some (.int (wk N)), some (.int ((N - 1) % 7)), some (.lst [.tup [.int y, .int (wk (E - 7)), .int ((E - 7 - 1) % 7)], .tup [.int y, .int (wk (E - 3)), .int ((E - 3 - 1) % 7)], .tup [.int (wy E), .int (wk E), .int ((E - 1) % 7)]]), none, some (.int (wk (E - 3))), none, some (.lst ((rng 1 ln).map (fun t : Int => D.tup [.int y, .int m, .int t]))), some (.int w), some (.int p), some (.lst (SL.map (fun t : Int => D.tup [.int y, .int m, .int t]))), some DU, some (.int N), some (.int B1), some (.int B2), none, none, none, none, none, none, none, none] (st.set n (.lst [.int a4, .int b4, .int c4])) := by
    unfold p_law_14
    simp [aLeT, dSeq, dIfS, dNot, dB, dChain, dC, dVar, dRet, dRetN, dNext, dAndV, dOrV, dNotV, dAnd, dOr, dIf, dTru, truD, dBin, dCons, dNil, dTup, dLst, mkL, dCall, dAsg, dAug, dPar, dgName, dgTup, dgCons, dgNil, dDrop, R.bind, R.s, R.b, aLe, aLt, aGt, aGe, aSub, aAdd, aMul, aFdiv, aMod, aEq, aNe, aIsN, aNotN, D.isNon, aAddI, aIx, L2.ixN, beqi, seqA, seqL, seqR, okEq, norm, D.isSc, D.isStr, D.dat, D.dats, D.dep, D.deps, D.eqv, D.eqvs, dRaise, dNeg, bSum, bAbs, bInt, bMax2, bMin2, bLen, intsD, dSl, aSl, dP, dNoP, okMul, fm, fd, m14a, m14b, atI0]
  have f15a := fun st => e_behind (w := w) V hw st
  have f15b := fun st => e_ahead (w := w) V hw st
  rw [← hN, ← hB1] at f15a
  rw [← hN, ← hB2] at f15b
  have f15c := fun st => e_date2 (n := B1) ⟨by omega, by omega⟩ st
  have f15d := fun st => e_date2 (n := B2) ⟨by omega, by omega⟩ st
  have k15 : p_law_15 [x0, some (.ref n), some (.tup [.int y, .int m, .int d]), some (.tup [.int oy, .int om, .int od]), some (.int (wy N)), some (.int (wk N)), some (.int ((N - 1) % 7)), some (.lst [.tup [.int y, .int (wk (E - 7)), .int ((E - 7 - 1) % 7)], .tup [.int y, .int (wk (E - 3)), .int ((E - 3 - 1) % 7)], .tup [.int (wy E), .int (wk E), .int ((E - 1) % 7)]]), none, some (.int (wk (E - 3))), none, some (.lst ((rng 1 ln).map (fun t : Int => D.tup [.int y, .int m, .int t]))), some (.int w), some (.int p), some (.lst (SL.map (fun t : Int => D.tup [.int y, .int m, .int t]))), some DU, some (.int N), some (.int B1), some (.int B2), none, none, none, none, none, none, none, none] (st.set n (.lst [.int a4, .int b4, .int c4])) = .nx [x0, some (.ref n), some (.tup [.int y, .int m, .int d]), some (.tup [.int oy, .int om, .int od]), some (.int (wy N)), some (.int (wk N)), some (.int ((N - 1) % 7)), some (.lst [.tup [.int y, .int (wk (E - 7)), .int ((E - 7 - 1) % 7)], .tup [.int y, .int (wk (E - 3)), .int ((E - 3 - 1) % 7)], .tup [.int (wy E), .int (wk E), .int ((E - 1) % 7)]]), none, some (.int (wk (E - 3))), none, some (.lst ((rng 1 ln).map (fun t : Int => D.tup [.int y, .int m, .int t]))), some (.int w), some (.int p), some (.lst (SL.map (fun t : Int => D.tup [.int y, .int m, .int t]))), some DU, some (.int N), some (.int B1), some (.int B2), none, none, none, none, none, none, none, none] (st.set n (.lst [.int a4, .int b4, .int c4])) := by
    unfold p_law_15
    simp [aLeT, dSeq, dIfS, dNot, dB, dChain, dC, dVar, dRet, dRetN, dNext, dAndV, dOrV, dNotV, dAnd, dOr, dIf, dTru, truD, dBin, dCons, dNil, dTup, dLst, mkL, dCall, dAsg, dAug, dPar, dgName, dgTup, dgCons, dgNil, dDrop, R.bind, R.s, R.b, aLe, aLt, aGt, aGe, aSub, aAdd, aMul, aFdiv, aMod, aEq, aNe, aIsN, aNotN, D.isNon, aAddI, aIx, L2.atI, L2.ixN, beqi, seqA, seqL, seqR, okEq, norm, D.isSc, D.isStr, D.dat, D.dats, D.dep, D.deps, D.eqv, D.eqvs, dRaise, dNeg, bSum, bAbs, bInt, bMax2, bMin2, bLen, intsD, dSl, aSl, dP, dNoP, okMul, fm, fd, f15a, f15b, f15c, f15d, datD]
  obtain ⟨kk, hkk⟩ : ∃ kk : Nat, (num y m 1 - 1 - w) % 7 = (kk : Int) := ⟨((num y m 1 - 1 - w) % 7).toNat, by omega⟩
  have f16 := e_rows V.1 hw (hst a4 b4 c4) hkk hln
  have kk6 : kk ≤ 6 := by omega
  obtain ⟨F0, F1, F2, F3, F4, F5, F6, F7, F8, F9⟩ := facts kk6 ln1 ln2
  obtain ⟨CL, hCL⟩ : ∃ CL, CL = cellsI kk ln := ⟨_, rfl⟩
  rw [← hCL] at F0 F1 F2 F3 F5 F6 F7 F8 F9
  have CL2 : CL.length ≤ 16777216 := by omega
  have k16 : p_law_16 [x0, some (.ref n), some (.tup [.int y, .int m, .int d]), some (.tup [.int oy, .int om, .int od]), some (.int (wy N)), some (.int (wk N)), some (.int ((N - 1) % 7)), some (.lst [.tup [.int y, .int (wk (E - 7)), .int ((E - 7 - 1) % 7)], .tup [.int y, .int (wk (E - 3)), .int ((E - 3 - 1) % 7)], .tup [.int (wy E), .int (wk E), .int ((E - 1) % 7)]]), none, some (.int (wk (E - 3))), none, some (.lst ((rng 1 ln).map (fun t : Int => D.tup [.int y, .int m, .int t]))), some (.int w), some (.int p), some (.lst (SL.map (fun t : Int => D.tup [.int y, .int m, .int t]))), some DU, some (.int N), some (.int B1), some (.int B2), none, none, none, none, none, none, none, none] (st.set n (.lst [.int a4, .int b4, .int c4])) = .nx [x0, some (.ref n), some (.tup [.int y, .int m, .int d]), some (.tup [.int oy, .int om, .int od]), some (.int (wy N)), some (.int (wk N)), some (.int ((N - 1) % 7)), some (.lst [.tup [.int y, .int (wk (E - 7)), .int ((E - 7 - 1) % 7)], .tup [.int y, .int (wk (E - 3)), .int ((E - 3 - 1) % 7)], .tup [.int (wy E), .int (wk E), .int ((E - 1) % 7)]]), none, some (.int (wk (E - 3))), none, some (.lst ((rng 1 ln).map (fun t : Int => D.tup [.int y, .int m, .int t]))), some (.int w), some (.int p), some (.lst (SL.map (fun t : Int => D.tup [.int y, .int m, .int t]))), some DU, some (.int N), some (.int B1), some (.int B2), none, some (.tup (rowsD kk ln)), none, none, none, none, none, none] (st.set n (.lst [.int a4, .int b4, .int c4])) := by
    unfold p_law_16
    simp [aLeT, dSeq, dIfS, dNot, dB, dChain, dC, dVar, dRet, dRetN, dNext, dAndV, dOrV, dNotV, dAnd, dOr, dIf, dTru, truD, dBin, dCons, dNil, dTup, dLst, mkL, dCall, dAsg, dAug, dPar, dgName, dgTup, dgCons, dgNil, dDrop, R.bind, R.s, R.b, aLe, aLt, aGt, aGe, aSub, aAdd, aMul, aFdiv, aMod, aEq, aNe, aIsN, aNotN, D.isNon, aAddI, aIx, L2.atI, L2.ixN, beqi, seqA, seqL, seqR, okEq, norm, D.isSc, D.isStr, D.dat, D.dats, D.dep, D.deps, D.eqv, D.eqvs, dRaise, dNeg, bSum, bAbs, bInt, bMax2, bMin2, bLen, intsD, dSl, aSl, dP, dNoP, okMul, fm, fd, f16]
  have k17 : p_law_17 [x0, some (.ref n), some (.tup [.int y, .int m, .int d]), some (.tup [.int oy, .int om, .int od]), some (.int (wy N)), some (.int (wk N)), some (.int ((N - 1) % 7)), some (.lst [.tup [.int y, .int (wk (E - 7)), .int ((E - 7 - 1) % 7)], .tup [.int y, .int (wk (E - 3)), .int ((E - 3 - 1) % 7)], .tup [.int (wy E), .int (wk E), .int ((E - 1) % 7)]]), none, some (.int (wk (E - 3))), none, some (.lst ((rng 1 ln).map (fun t : Int => D.tup [.int y, .int m, .int t]))), some (.int w), some (.int p), some (.lst (SL.map (fun t : Int => D.tup [.int y, .int m, .int t]))), some DU, some (.int N), some (.int B1), some (.int B2), none, some (.tup (rowsD kk ln)), none, none, none, none, none, none] (st.set n (.lst [.int a4, .int b4, .int c4])) = .nx [x0, some (.ref n), some (.tup [.int y, .int m, .int d]), some (.tup [.int oy, .int om, .int od]), some (.int (wy N)), some (.int (wk N)), some (.int ((N - 1) % 7)), some (.lst [.tup [.int y, .int (wk (E - 7)), .int ((E - 7 - 1) % 7)], .tup [.int y, .int (wk (E - 3)), .int ((E - 3 - 1) % 7)], .tup [.int (wy E), .int (wk E), .int ((E - 1) % 7)]]), none, some (.int (wk (E - 3))), none, some (.lst ((rng 1 ln).map (fun t : Int => D.tup [.int y, .int m, .int t]))), some (.int w), some (.int p), some (.lst (SL.map (fun t : Int => D.tup [.int y, .int m, .int t]))), some DU, some (.int N), some (.int B1), some (.int B2), none, some (.tup (rowsD kk ln)), some (.lst []), none, none, none, none, none] (st.set n (.lst [.int a4, .int b4, .int c4])) := by
    unfold p_law_17
    simp [aLeT, dSeq, dIfS, dNot, dB, dChain, dC, dVar, dRet, dRetN, dNext, dAndV, dOrV, dNotV, dAnd, dOr, dIf, dTru, truD, dBin, dCons, dNil, dTup, dLst, mkL, dCall, dAsg, dAug, dPar, dgName, dgTup, dgCons, dgNil, dDrop, R.bind, R.s, R.b, aLe, aLt, aGt, aGe, aSub, aAdd, aMul, aFdiv, aMod, aEq, aNe, aIsN, aNotN, D.isNon, aAddI, aIx, L2.atI, L2.ixN, beqi, seqA, seqL, seqR, okEq, norm, D.isSc, D.isStr, D.dat, D.dats, D.dep, D.deps, D.eqv, D.eqvs, dRaise, dNeg, bSum, bAbs, bInt, bMax2, bMin2, bLen, intsD, dSl, aSl, dP, dNoP, okMul, fm, fd, ]
  obtain ⟨o22, q18⟩ := flat_loop (i := 22) (j := 0) (fun acc oo => [x0, some (.ref n), some (.tup [.int y, .int m, .int d]), some (.tup [.int oy, .int om, .int od]), some (.int (wy N)), some (.int (wk N)), some (.int ((N - 1) % 7)), some (.lst [.tup [.int y, .int (wk (E - 7)), .int ((E - 7 - 1) % 7)], .tup [.int y, .int (wk (E - 3)), .int ((E - 3 - 1) % 7)], .tup [.int (wy E), .int (wk E), .int ((E - 1) % 7)]]), none, some (.int (wk (E - 3))), none, some (.lst ((rng 1 ln).map (fun t : Int => D.tup [.int y, .int m, .int t]))), some (.int w), some (.int p), some (.lst (SL.map (fun t : Int => D.tup [.int y, .int m, .int t]))), some DU, some (.int N), some (.int B1), some (.int B2), none, some (.tup (rowsD kk ln)), some (.lst (acc.map .int)), oo, none, none, none, none]) (fun acc oo dd => rfl) (st.set n (.lst [.int a4, .int b4, .int c4])) (fb := l_law_1) (fun acc r hacc => by
    rw [List.length_append] at hacc
    have a1 : aAdd false (.lst (acc.map .int)) (.lst (r.map .int)) = fun s => .ok (.lst ((acc ++ r).map .int)) s := by
      funext s
      exact add_lst _ _ _ (by rw [List.length_map, List.length_map]; exact hacc) (by rw [List.map_append])
    unfold l_law_1
    simp [aLeT, dSeq, dIfS, dNot, dB, dChain, dC, dVar, dRet, dRetN, dNext, dAndV, dOrV, dNotV, dAnd, dOr, dIf, dTru, truD, dBin, dCons, dNil, dTup, dLst, mkL, dCall, dAsg, dAug, dPar, dgName, dgTup, dgCons, dgNil, dDrop, R.bind, R.s, R.b, aLe, aLt, aGt, aGe, aSub, aMul, aFdiv, aMod, aEq, aNe, aIsN, aNotN, D.isNon, aAddI, aIx, L2.atI, L2.ixN, beqi, seqA, seqL, seqR, okEq, norm, D.isSc, D.isStr, D.dat, D.dats, D.dep, D.deps, D.eqv, D.eqvs, dRaise, dNeg, bSum, bAbs, bInt, bMax2, bMin2, bLen, intsD, dSl, aSl, dP, dNoP, okMul, fm, fd, bList, seqA, a1]) (rowsI kk ln) [] none (by rw [List.nil_append, F0]; exact CL2)
  rw [List.nil_append, F0] at q18
  have q18 : forD (dgName 22) l_law_1 none (rowsD kk ln) [x0, some (.ref n), some (.tup [.int y, .int m, .int d]), some (.tup [.int oy, .int om, .int od]), some (.int (wy N)), some (.int (wk N)), some (.int ((N - 1) % 7)), some (.lst [.tup [.int y, .int (wk (E - 7)), .int ((E - 7 - 1) % 7)], .tup [.int y, .int (wk (E - 3)), .int ((E - 3 - 1) % 7)], .tup [.int (wy E), .int (wk E), .int ((E - 1) % 7)]]), none, some (.int (wk (E - 3))), none, some (.lst ((rng 1 ln).map (fun t : Int => D.tup [.int y, .int m, .int t]))), some (.int w), some (.int p), some (.lst (SL.map (fun t : Int => D.tup [.int y, .int m, .int t]))), some DU, some (.int N), some (.int B1), some (.int B2), none, some (.tup (rowsD kk ln)), some (.lst []), none, none, none, none, none] (st.set n (.lst [.int a4, .int b4, .int c4])) = _ := q18
  have k18 : p_law_18 [x0, some (.ref n), some (.tup [.int y, .int m, .int d]), some (.tup [.int oy, .int om, .int od]), some (.int (wy N)), some (.int (wk N)), some (.int ((N - 1) % 7)), some (.lst [.tup [.int y, .int (wk (E - 7)), .int ((E - 7 - 1) % 7)], .tup [.int y, .int (wk (E - 3)), .int ((E - 3 - 1) % 7)], .tup [.int (wy E), .int (wk E), .int ((E - 1) % 7)]]), none, some (.int (wk (E - 3))), none, some (.lst ((rng 1 ln).map (fun t : Int => D.tup [.int y, .int m, .int t]))), some (.int w), some (.int p), some (.lst (SL.map (fun t : Int => D.tup [.int y, .int m, .int t]))), some DU, some (.int N), some (.int B1), some (.int B2), none, some (.tup (rowsD kk ln)), some (.lst []), none, none, none, none, none] (st.set n (.lst [.int a4, .int b4, .int c4])) = .nx [x0, some (.ref n), some (.tup [.int y, .int m, .int d]), some (.tup [.int oy, .int om, .int od]), some (.int (wy N)), some (.int (wk N)), some (.int ((N - 1) % 7)), some (.lst [.tup [.int y, .int (wk (E - 7)), .int ((E - 7 - 1) % 7)], .tup [.int y, .int (wk (E - 3)), .int ((E - 3 - 1) % 7)], .tup [.int (wy E), .int (wk E), .int ((E - 1) % 7)]]), none, some (.int (wk (E - 3))), none, some (.lst ((rng 1 ln).map (fun t : Int => D.tup [.int y, .int m, .int t]))), some (.int w), some (.int p), some (.lst (SL.map (fun t : Int => D.tup [.int y, .int m, .int t]))), some DU, some (.int N), some (.int B1), some (.int B2), none, some (.tup (rowsD kk ln)), some (.lst (CL.map .int)), o22, none, none, none, none] (st.set n (.lst [.int a4, .int b4, .int c4])) := by
    unfold p_law_18
    simp [aLeT, dSeq, dIfS, dNot, dB, dChain, dC, dVar, dRet, dRetN, dNext, dAndV, dOrV, dNotV, dAnd, dOr, dIf, dTru, truD, dBin, dCons, dNil, dTup, dLst, mkL, dCall, dAsg, dAug, dPar, dgName, dgTup, dgCons, dgNil, dDrop, R.bind, R.s, R.b, aLe, aLt, aGt, aGe, aSub, aAdd, aMul, aFdiv, aMod, aEq, aNe, aIsN, aNotN, D.isNon, aAddI, aIx, L2.atI, L2.ixN, beqi, seqA, seqL, seqR, okEq, norm, D.isSc, D.isStr, D.dat, D.dats, D.dep, D.deps, D.eqv, D.eqvs, dRaise, dNeg, bSum, bAbs, bInt, bMax2, bMin2, bLen, intsD, dSl, aSl, dP, dNoP, okMul, fm, fd, dFor, dIt, gdOf, q18]
  have q19 := fun st => lcF (gt := dgName 8) (ft := dB (dBin aGt (dVar 8) (dC (.int 0)))) (fe := y_law_7) (env := [x0, some (.ref n), some (.tup [.int y, .int m, .int d]), some (.tup [.int oy, .int om, .int od]), some (.int (wy N)), some (.int (wk N)), some (.int ((N - 1) % 7)), some (.lst [.tup [.int y, .int (wk (E - 7)), .int ((E - 7 - 1) % 7)], .tup [.int y, .int (wk (E - 3)), .int ((E - 3 - 1) % 7)], .tup [.int (wy E), .int (wk E), .int ((E - 1) % 7)]]), none, some (.int (wk (E - 3))), none, some (.lst ((rng 1 ln).map (fun t : Int => D.tup [.int y, .int m, .int t]))), some (.int w), some (.int p), some (.lst (SL.map (fun t : Int => D.tup [.int y, .int m, .int t]))), some DU, some (.int N), some (.int B1), some (.int B2), none, some (.tup (rowsD kk ln)), some (.lst (CL.map .int)), o22, none, none, none, none]) (st := st) .int .int (fun c => [x0, some (.ref n), some (.tup [.int y, .int m, .int d]), some (.tup [.int oy, .int om, .int od]), some (.int (wy N)), some (.int (wk N)), some (.int ((N - 1) % 7)), some (.lst [.tup [.int y, .int (wk (E - 7)), .int ((E - 7 - 1) % 7)], .tup [.int y, .int (wk (E - 3)), .int ((E - 3 - 1) % 7)], .tup [.int (wy E), .int (wk E), .int ((E - 1) % 7)]]), some (.int c), some (.int (wk (E - 3))), none, some (.lst ((rng 1 ln).map (fun t : Int => D.tup [.int y, .int m, .int t]))), some (.int w), some (.int p), some (.lst (SL.map (fun t : Int => D.tup [.int y, .int m, .int t]))), some DU, some (.int N), some (.int B1), some (.int B2), none, some (.tup (rowsD kk ln)), some (.lst (CL.map .int)), o22, none, none, none, none]) (fun c => decide (0 < c)) CL (fun c hc => by
    refine ⟨rfl, ?_, fun _ => ?_⟩
    · simp [aLeT, dSeq, dIfS, dNot, dB, dChain, dC, dVar, dRet, dRetN, dNext, dAndV, dOrV, dNotV, dAnd, dOr, dIf, dTru, truD, dBin, dCons, dNil, dTup, dLst, mkL, dCall, dAsg, dAug, dPar, dgName, dgTup, dgCons, dgNil, dDrop, R.bind, R.s, R.b, aLe, aLt, aGt, aGe, aSub, aAdd, aMul, aFdiv, aMod, aEq, aNe, aIsN, aNotN, D.isNon, aAddI, aIx, L2.atI, L2.ixN, beqi, seqA, seqL, seqR, okEq, norm, D.isSc, D.isStr, D.dat, D.dats, D.dep, D.deps, D.eqv, D.eqvs, dRaise, dNeg, bSum, bAbs, bInt, bMax2, bMin2, bLen, intsD, dSl, aSl, dP, dNoP, okMul, fm, fd]
    · unfold y_law_7
      simp [aLeT, dSeq, dIfS, dNot, dB, dChain, dC, dVar, dRet, dRetN, dNext, dAndV, dOrV, dNotV, dAnd, dOr, dIf, dTru, truD, dBin, dCons, dNil, dTup, dLst, mkL, dCall, dAsg, dAug, dPar, dgName, dgTup, dgCons, dgNil, dDrop, R.bind, R.s, R.b, aLe, aLt, aGt, aGe, aSub, aAdd, aMul, aFdiv, aMod, aEq, aNe, aIsN, aNotN, D.isNon, aAddI, aIx, L2.atI, L2.ixN, beqi, seqA, seqL, seqR, okEq, norm, D.isSc, D.isStr, D.dat, D.dats, D.dep, D.deps, D.eqv, D.eqvs, dRaise, dNeg, bSum, bAbs, bInt, bMax2, bMin2, bLen, intsD, dSl, aSl, dP, dNoP, okMul, fm, fd])
  rw [F1] at q19
  have m19 : ∀ st, dLc false (dIt (dVar 21)) (dgName 8) (dB (dBin aGt (dVar 8) (dC (.int 0)))) y_law_7 [8] [x0, some (.ref n), some (.tup [.int y, .int m, .int d]), some (.tup [.int oy, .int om, .int od]), some (.int (wy N)), some (.int (wk N)), some (.int ((N - 1) % 7)), some (.lst [.tup [.int y, .int (wk (E - 7)), .int ((E - 7 - 1) % 7)], .tup [.int y, .int (wk (E - 3)), .int ((E - 3 - 1) % 7)], .tup [.int (wy E), .int (wk E), .int ((E - 1) % 7)]]), none, some (.int (wk (E - 3))), none, some (.lst ((rng 1 ln).map (fun t : Int => D.tup [.int y, .int m, .int t]))), some (.int w), some (.int p), some (.lst (SL.map (fun t : Int => D.tup [.int y, .int m, .int t]))), some DU, some (.int N), some (.int B1), some (.int B2), none, some (.tup (rowsD kk ln)), some (.lst (CL.map .int)), o22, none, none, none, none] st = .ok (.lst ((rng 1 ln).map .int)) st := fun st =>
    lc_run (ds := CL.map .int) rfl (by rw [List.length_map]; exact CL2) (q19 st)
  have m19b : ∀ st, dListR2 false (dC (.int 1)) (dBin (aAdd false) (dCall bLen (dCons (dVar 11) (dNil))) (dC (.int 1))) [x0, some (.ref n), some (.tup [.int y, .int m, .int d]), some (.tup [.int oy, .int om, .int od]), some (.int (wy N)), some (.int (wk N)), some (.int ((N - 1) % 7)), some (.lst [.tup [.int y, .int (wk (E - 7)), .int ((E - 7 - 1) % 7)], .tup [.int y, .int (wk (E - 3)), .int ((E - 3 - 1) % 7)], .tup [.int (wy E), .int (wk E), .int ((E - 1) % 7)]]), none, some (.int (wk (E - 3))), none, some (.lst ((rng 1 ln).map (fun t : Int => D.tup [.int y, .int m, .int t]))), some (.int w), some (.int p), some (.lst (SL.map (fun t : Int => D.tup [.int y, .int m, .int t]))), some DU, some (.int N), some (.int B1), some (.int B2), none, some (.tup (rowsD kk ln)), some (.lst (CL.map .int)), o22, none, none, none, none] st = .ok (.lst ((rng 1 ln).map .int)) st := fun st => by
    exact listR2_run (i := 1) (j := (ln : Int) + 1) rfl (by simp [aLeT, dSeq, dIfS, dNot, dB, dChain, dC, dVar, dRet, dRetN, dNext, dAndV, dOrV, dNotV, dAnd, dOr, dIf, dTru, truD, dBin, dCons, dNil, dTup, dLst, mkL, dCall, dAsg, dAug, dPar, dgName, dgTup, dgCons, dgNil, dDrop, R.bind, R.s, R.b, aLe, aLt, aGt, aGe, aSub, aAdd, aMul, aFdiv, aMod, aEq, aNe, aIsN, aNotN, D.isNon, aAddI, aIx, L2.atI, L2.ixN, beqi, seqA, seqL, seqR, okEq, norm, D.isSc, D.isStr, D.dat, D.dats, D.dep, D.deps, D.eqv, D.eqvs, dRaise, dNeg, bSum, bAbs, bInt, bMax2, bMin2, bLen, intsD, dSl, aSl, dP, dNoP, okMul, fm, fd, rng_len]) (e_rng1 ln1 ln2 st)
  have m19c := fun st => ne_ints (rng 1 ln) st
  have F2i : ((CL.length : Nat) : Int) % 7 = 0 := by omega
  have F3i : ¬ (42 : Int) < (CL.length : Nat) := by omega
  have m19d : ∀ st, (dB (dBin aNe (dBin aMod (dCall bLen (dCons (dVar 21) (dNil))) (dC (.int 7))) (dC (.int 0)))) [x0, some (.ref n), some (.tup [.int y, .int m, .int d]), some (.tup [.int oy, .int om, .int od]), some (.int (wy N)), some (.int (wk N)), some (.int ((N - 1) % 7)), some (.lst [.tup [.int y, .int (wk (E - 7)), .int ((E - 7 - 1) % 7)], .tup [.int y, .int (wk (E - 3)), .int ((E - 3 - 1) % 7)], .tup [.int (wy E), .int (wk E), .int ((E - 1) % 7)]]), none, some (.int (wk (E - 3))), none, some (.lst ((rng 1 ln).map (fun t : Int => D.tup [.int y, .int m, .int t]))), some (.int w), some (.int p), some (.lst (SL.map (fun t : Int => D.tup [.int y, .int m, .int t]))), some DU, some (.int N), some (.int B1), some (.int B2), none, some (.tup (rowsD kk ln)), some (.lst (CL.map .int)), o22, none, none, none, none] st = .ok false st := fun st => by
    simp [aLeT, dSeq, dIfS, dNot, dB, dChain, dC, dVar, dRet, dRetN, dNext, dAndV, dOrV, dNotV, dAnd, dOr, dIf, dTru, truD, dBin, dCons, dNil, dTup, dLst, mkL, dCall, dAsg, dAug, dPar, dgName, dgTup, dgCons, dgNil, dDrop, R.bind, R.s, R.b, aLe, aLt, aGt, aGe, aSub, aAdd, aMul, aFdiv, aMod, aIsN, aNotN, D.isNon, aAddI, aIx, L2.atI, L2.ixN, beqi, seqA, seqL, seqR, okEq, norm, D.isSc, D.isStr, D.dat, D.dats, D.dep, D.deps, D.eqv, D.eqvs, dRaise, dNeg, bSum, bAbs, bInt, bLen, intsD, dSl, aSl, dP, dNoP, okMul, fm, fd, ne_int0, fm7, F2i]
  have m19e : ∀ st, (dB (dBin aGt (dCall bLen (dCons (dVar 21) (dNil))) (dC (.int 42)))) [x0, some (.ref n), some (.tup [.int y, .int m, .int d]), some (.tup [.int oy, .int om, .int od]), some (.int (wy N)), some (.int (wk N)), some (.int ((N - 1) % 7)), some (.lst [.tup [.int y, .int (wk (E - 7)), .int ((E - 7 - 1) % 7)], .tup [.int y, .int (wk (E - 3)), .int ((E - 3 - 1) % 7)], .tup [.int (wy E), .int (wk E), .int ((E - 1) % 7)]]), none, some (.int (wk (E - 3))), none, some (.lst ((rng 1 ln).map (fun t : Int => D.tup [.int y, .int m, .int t]))), some (.int w), some (.int p), some (.lst (SL.map (fun t : Int => D.tup [.int y, .int m, .int t]))), some DU, some (.int N), some (.int B1), some (.int B2), none, some (.tup (rowsD kk ln)), some (.lst (CL.map .int)), o22, none, none, none, none] st = .ok false st := fun st => by
    simp [aLeT, dSeq, dIfS, dNot, dB, dChain, dC, dVar, dRet, dRetN, dNext, dAndV, dOrV, dNotV, dAnd, dOr, dIf, dTru, truD, dBin, dCons, dNil, dTup, dLst, mkL, dCall, dAsg, dAug, dPar, dgName, dgTup, dgCons, dgNil, dDrop, R.bind, R.s, R.b, aLe, aLt, aGt, aGe, aSub, aAdd, aMul, aFdiv, aMod, aIsN, aNotN, D.isNon, aAddI, aIx, L2.atI, L2.ixN, beqi, seqA, seqL, seqR, okEq, norm, D.isSc, D.isStr, D.dat, D.dats, D.dep, D.deps, D.eqv, D.eqvs, dRaise, dNeg, bSum, bAbs, bInt, bLen, intsD, dSl, aSl, dP, dNoP, okMul, fm, fd, F3i]
  have k19 : p_law_19 [x0, some (.ref n), some (.tup [.int y, .int m, .int d]), some (.tup [.int oy, .int om, .int od]), some (.int (wy N)), some (.int (wk N)), some (.int ((N - 1) % 7)), some (.lst [.tup [.int y, .int (wk (E - 7)), .int ((E - 7 - 1) % 7)], .tup [.int y, .int (wk (E - 3)), .int ((E - 3 - 1) % 7)], .tup [.int (wy E), .int (wk E), .int ((E - 1) % 7)]]), none, some (.int (wk (E - 3))), none, some (.lst ((rng 1 ln).map (fun t : Int => D.tup [.int y, .int m, .int t]))), some (.int w), some (.int p), some (.lst (SL.map (fun t : Int => D.tup [.int y, .int m, .int t]))), some DU, some (.int N), some (.int B1), some (.int B2), none, some (.tup (rowsD kk ln)), some (.lst (CL.map .int)), o22, none, none, none, none] (st.set n (.lst [.int a4, .int b4, .int c4])) = .nx [x0, some (.ref n), some (.tup [.int y, .int m, .int d]), some (.tup [.int oy, .int om, .int od]), some (.int (wy N)), some (.int (wk N)), some (.int ((N - 1) % 7)), some (.lst [.tup [.int y, .int (wk (E - 7)), .int ((E - 7 - 1) % 7)], .tup [.int y, .int (wk (E - 3)), .int ((E - 3 - 1) % 7)], .tup [.int (wy E), .int (wk E), .int ((E - 1) % 7)]]), none, some (.int (wk (E - 3))), none, some (.lst ((rng 1 ln).map (fun t : Int => D.tup [.int y, .int m, .int t]))), some (.int w), some (.int p), some (.lst (SL.map (fun t : Int => D.tup [.int y, .int m, .int t]))), some DU, some (.int N), some (.int B1), some (.int B2), none, some (.tup (rowsD kk ln)), some (.lst (CL.map .int)), o22, none, none, none, none] (st.set n (.lst [.int a4, .int b4, .int c4])) := by
    unfold p_law_19
    exact ifs3 (m19 _) (m19b _) (m19c _) (m19d _) (m19e _)
  have q20 := fun st => lcF (gt := dgName 22) (ft := dB (dBin aEq (dCall bMaxA (dCons (dVar 22) (dNil))) (dC (.int 0)))) (fe := y_law_8) (env := [x0, some (.ref n), some (.tup [.int y, .int m, .int d]), some (.tup [.int oy, .int om, .int od]), some (.int (wy N)), some (.int (wk N)), some (.int ((N - 1) % 7)), some (.lst [.tup [.int y, .int (wk (E - 7)), .int ((E - 7 - 1) % 7)], .tup [.int y, .int (wk (E - 3)), .int ((E - 3 - 1) % 7)], .tup [.int (wy E), .int (wk E), .int ((E - 1) % 7)]]), none, some (.int (wk (E - 3))), none, some (.lst ((rng 1 ln).map (fun t : Int => D.tup [.int y, .int m, .int t]))), some (.int w), some (.int p), some (.lst (SL.map (fun t : Int => D.tup [.int y, .int m, .int t]))), some DU, some (.int N), some (.int B1), some (.int B2), none, some (.tup (rowsD kk ln)), some (.lst (CL.map .int)), none, none, none, none, none]) (st := st) (fun r : List Int => D.tup (r.map .int)) (fun _ => .int 1) (fun r => [x0, some (.ref n), some (.tup [.int y, .int m, .int d]), some (.tup [.int oy, .int om, .int od]), some (.int (wy N)), some (.int (wk N)), some (.int ((N - 1) % 7)), some (.lst [.tup [.int y, .int (wk (E - 7)), .int ((E - 7 - 1) % 7)], .tup [.int y, .int (wk (E - 3)), .int ((E - 3 - 1) % 7)], .tup [.int (wy E), .int (wk E), .int ((E - 1) % 7)]]), none, some (.int (wk (E - 3))), none, some (.lst ((rng 1 ln).map (fun t : Int => D.tup [.int y, .int m, .int t]))), some (.int w), some (.int p), some (.lst (SL.map (fun t : Int => D.tup [.int y, .int m, .int t]))), some DU, some (.int N), some (.int B1), some (.int B2), none, some (.tup (rowsD kk ln)), some (.lst (CL.map .int)), some (.tup (r.map .int)), none, none, none, none]) (fun _ => false) (rowsI kk ln) (fun r hr => by
    have hr := List.all_eq_true.mp F4 r hr
    obtain ⟨M, hM, hm⟩ := maxA r st hr
    refine ⟨rfl, ?_, fun z => by cases z⟩
    simp [aLeT, dSeq, dIfS, dNot, dB, dChain, dC, dVar, dRet, dRetN, dNext, dAndV, dOrV, dNotV, dAnd, dOr, dIf, dTru, truD, dBin, dCons, dNil, dTup, dLst, mkL, dCall, dAsg, dAug, dPar, dgName, dgTup, dgCons, dgNil, dDrop, R.bind, R.s, R.b, aLe, aLt, aGt, aGe, aSub, aAdd, aMul, aFdiv, aMod, aEq, aNe, aIsN, aNotN, D.isNon, aAddI, aIx, L2.atI, L2.ixN, beqi, seqA, seqL, seqR, okEq, norm, D.isSc, D.isStr, D.dat, D.dats, D.dep, D.deps, D.eqv, D.eqvs, dRaise, dNeg, bSum, bAbs, bInt, bMax2, bMin2, bLen, intsD, dSl, aSl, dP, dNoP, okMul, fm, fd, hm, hM])
  rw [List.filter_eq_nil_iff.mpr (fun _ _ => Bool.false_ne_true)] at q20
  have m20 : ∀ st, dLc false (dIt (dVar 20)) (dgName 22) (dB (dBin aEq (dCall bMaxA (dCons (dVar 22) (dNil))) (dC (.int 0)))) y_law_8 [22] [x0, some (.ref n), some (.tup [.int y, .int m, .int d]), some (.tup [.int oy, .int om, .int od]), some (.int (wy N)), some (.int (wk N)), some (.int ((N - 1) % 7)), some (.lst [.tup [.int y, .int (wk (E - 7)), .int ((E - 7 - 1) % 7)], .tup [.int y, .int (wk (E - 3)), .int ((E - 3 - 1) % 7)], .tup [.int (wy E), .int (wk E), .int ((E - 1) % 7)]]), none, some (.int (wk (E - 3))), none, some (.lst ((rng 1 ln).map (fun t : Int => D.tup [.int y, .int m, .int t]))), some (.int w), some (.int p), some (.lst (SL.map (fun t : Int => D.tup [.int y, .int m, .int t]))), some DU, some (.int N), some (.int B1), some (.int B2), none, some (.tup (rowsD kk ln)), some (.lst (CL.map .int)), o22, none, none, none, none] st = .ok (.lst []) st := fun st =>
    lc_run (ds := rowsD kk ln) rfl (by unfold rowsD; rw [List.length_map]; exact Nat.le_trans (rows_len kk6 ln1 ln2) (by decide)) (q20 st)
  have k20 : p_law_20 [x0, some (.ref n), some (.tup [.int y, .int m, .int d]), some (.tup [.int oy, .int om, .int od]), some (.int (wy N)), some (.int (wk N)), some (.int ((N - 1) % 7)), some (.lst [.tup [.int y, .int (wk (E - 7)), .int ((E - 7 - 1) % 7)], .tup [.int y, .int (wk (E - 3)), .int ((E - 3 - 1) % 7)], .tup [.int (wy E), .int (wk E), .int ((E - 1) % 7)]]), none, some (.int (wk (E - 3))), none, some (.lst ((rng 1 ln).map (fun t : Int => D.tup [.int y, .int m, .int t]))), some (.int w), some (.int p), some (.lst (SL.map (fun t : Int => D.tup [.int y, .int m, .int t]))), some DU, some (.int N), some (.int B1), some (.int B2), none, some (.tup (rowsD kk ln)), some (.lst (CL.map .int)), o22, none, none, none, none] (st.set n (.lst [.int a4, .int b4, .int c4])) = .nx [x0, some (.ref n), some (.tup [.int y, .int m, .int d]), some (.tup [.int oy, .int om, .int od]), some (.int (wy N)), some (.int (wk N)), some (.int ((N - 1) % 7)), some (.lst [.tup [.int y, .int (wk (E - 7)), .int ((E - 7 - 1) % 7)], .tup [.int y, .int (wk (E - 3)), .int ((E - 3 - 1) % 7)], .tup [.int (wy E), .int (wk E), .int ((E - 1) % 7)]]), none, some (.int (wk (E - 3))), none, some (.lst ((rng 1 ln).map (fun t : Int => D.tup [.int y, .int m, .int t]))), some (.int w), some (.int p), some (.lst (SL.map (fun t : Int => D.tup [.int y, .int m, .int t]))), some DU, some (.int N), some (.int B1), some (.int B2), none, some (.tup (rowsD kk ln)), some (.lst (CL.map .int)), o22, none, none, none, none] (st.set n (.lst [.int a4, .int b4, .int c4])) := by
    unfold p_law_20
    simp [aLeT, dSeq, dIfS, dNot, dB, dChain, dC, dVar, dRet, dRetN, dNext, dAndV, dOrV, dNotV, dAnd, dOr, dIf, dTru, truD, dBin, dCons, dNil, dTup, dLst, mkL, dCall, dAsg, dAug, dPar, dgName, dgTup, dgCons, dgNil, dDrop, R.bind, R.s, R.b, aLe, aLt, aGt, aGe, aSub, aAdd, aMul, aFdiv, aMod, aEq, aNe, aIsN, aNotN, D.isNon, aAddI, aIx, L2.atI, L2.ixN, beqi, seqA, seqL, seqR, okEq, norm, D.isSc, D.isStr, D.dat, D.dats, D.dep, D.deps, D.eqv, D.eqvs, dRaise, dNeg, bSum, bAbs, bInt, bMax2, bMin2, bLen, intsD, dSl, aSl, dP, dNoP, okMul, fm, fd, m20]
  have q21 := fun st => lcF (gt := dgTup 2 (dgCons (dgName 19) (dgCons (dgName 8) (dgNil)))) (ft := dB (dBin aGt (dVar 8) (dC (.int 0)))) (fe := y_law_9) (env := [x0, some (.ref n), some (.tup [.int y, .int m, .int d]), some (.tup [.int oy, .int om, .int od]), some (.int (wy N)), some (.int (wk N)), some (.int ((N - 1) % 7)), some (.lst [.tup [.int y, .int (wk (E - 7)), .int ((E - 7 - 1) % 7)], .tup [.int y, .int (wk (E - 3)), .int ((E - 3 - 1) % 7)], .tup [.int (wy E), .int (wk E), .int ((E - 1) % 7)]]), none, some (.int (wk (E - 3))), none, some (.lst ((rng 1 ln).map (fun t : Int => D.tup [.int y, .int m, .int t]))), some (.int w), some (.int p), some (.lst (SL.map (fun t : Int => D.tup [.int y, .int m, .int t]))), some DU, some (.int N), some (.int B1), some (.int B2), none, some (.tup (rowsD kk ln)), some (.lst (CL.map .int)), o22, none, none, none, none]) (st := st) (fun q : Nat × Int => D.tup [.int (q.1 : Nat), .int q.2]) (fun _ => .int w) (fun q => [x0, some (.ref n), some (.tup [.int y, .int m, .int d]), some (.tup [.int oy, .int om, .int od]), some (.int (wy N)), some (.int (wk N)), some (.int ((N - 1) % 7)), some (.lst [.tup [.int y, .int (wk (E - 7)), .int ((E - 7 - 1) % 7)], .tup [.int y, .int (wk (E - 3)), .int ((E - 3 - 1) % 7)], .tup [.int (wy E), .int (wk E), .int ((E - 1) % 7)]]), some (.int q.2), some (.int (wk (E - 3))), none, some (.lst ((rng 1 ln).map (fun t : Int => D.tup [.int y, .int m, .int t]))), some (.int w), some (.int p), some (.lst (SL.map (fun t : Int => D.tup [.int y, .int m, .int t]))), some DU, some (.int N), some (.int B1), some (.int B2), some (.int (q.1 : Nat)), some (.tup (rowsD kk ln)), some (.lst (CL.map .int)), o22, none, none, none, none]) (fun q => decide (0 < q.2)) (enI 0 CL) (fun q hq => by
    have hq := of_decide_eq_true (List.all_eq_true.mp F5 q hq)
    refine ⟨by simp [dgTup, dgCons, dgName, dgNil], ?_, fun hz => ?_⟩
    · simp [aLeT, dSeq, dIfS, dNot, dB, dChain, dC, dVar, dRet, dRetN, dNext, dAndV, dOrV, dNotV, dAnd, dOr, dIf, dTru, truD, dBin, dCons, dNil, dTup, dLst, mkL, dCall, dAsg, dAug, dPar, dgName, dgTup, dgCons, dgNil, dDrop, R.bind, R.s, R.b, aLe, aLt, aGt, aGe, aSub, aAdd, aMul, aFdiv, aMod, aEq, aNe, aIsN, aNotN, D.isNon, aAddI, aIx, L2.atI, L2.ixN, beqi, seqA, seqL, seqR, okEq, norm, D.isSc, D.isStr, D.dat, D.dats, D.dep, D.deps, D.eqv, D.eqvs, dRaise, dNeg, bSum, bAbs, bInt, bMax2, bMin2, bLen, intsD, dSl, aSl, dP, dNoP, okMul, fm, fd]
    · have hz := of_decide_eq_true hz
      obtain ⟨z1, z2⟩ := hq hz
      have g1 := atI_rng (n := ln) (c := q.2) (by omega) z2
      have g2 : Val y m q.2 := ⟨V.1, by omega, by omega⟩
      have g3 := fun st => e_num' g2 st
      rw [hday] at g3
      have g4 : (J + q.2 - (q.1 : Int) - 1) % 7 = w := by rw [hJ, z1]; omega
      unfold y_law_9
      simp [aLeT, dSeq, dIfS, dNot, dB, dChain, dC, dVar, dRet, dRetN, dNext, dAndV, dOrV, dNotV, dAnd, dOr, dIf, dTru, truD, dBin, dCons, dNil, dTup, dLst, mkL, dCall, dAsg, dAug, dPar, dgName, dgTup, dgCons, dgNil, dDrop, R.bind, R.s, R.b, aLe, aLt, aGt, aGe, aSub, aAdd, aMul, aFdiv, aMod, aEq, aNe, aIsN, aNotN, D.isNon, aAddI, aIx, L2.ixN, beqi, seqA, seqL, seqR, okEq, norm, D.isSc, D.isStr, D.dat, D.dats, D.dep, D.deps, D.eqv, D.eqvs, dRaise, dNeg, bSum, bAbs, bInt, bMax2, bMin2, bLen, intsD, dSl, aSl, dP, dNoP, okMul, fm, fd, atI_map, g1, g3, fm7, g4])
  have m21 : ∀ st, dLc false (dEnum (dVar 21)) (dgTup 2 (dgCons (dgName 19) (dgCons (dgName 8) (dgNil)))) (dB (dBin aGt (dVar 8) (dC (.int 0)))) y_law_9 [19, 8] [x0, some (.ref n), some (.tup [.int y, .int m, .int d]), some (.tup [.int oy, .int om, .int od]), some (.int (wy N)), some (.int (wk N)), some (.int ((N - 1) % 7)), some (.lst [.tup [.int y, .int (wk (E - 7)), .int ((E - 7 - 1) % 7)], .tup [.int y, .int (wk (E - 3)), .int ((E - 3 - 1) % 7)], .tup [.int (wy E), .int (wk E), .int ((E - 1) % 7)]]), none, some (.int (wk (E - 3))), none, some (.lst ((rng 1 ln).map (fun t : Int => D.tup [.int y, .int m, .int t]))), some (.int w), some (.int p), some (.lst (SL.map (fun t : Int => D.tup [.int y, .int m, .int t]))), some DU, some (.int N), some (.int B1), some (.int B2), none, some (.tup (rowsD kk ln)), some (.lst (CL.map .int)), o22, none, none, none, none] st = .ok (.lst ((List.replicate ln w).map .int)) st := fun st => by
    refine lc_run (ds := (enI 0 CL).map fun q => D.tup [.int (q.1 : Nat), .int q.2]) ?_ (by rw [List.length_map, enI_len]; exact CL2) ((q21 st).trans ?_)
    · have := enum_map CL 0
      simp only [dEnum, dVar, R.bind, List.getElem?_cons_zero, List.getElem?_cons_succ, gdOf, this]
    · rw [map_const, F6, List.map_replicate]
  have m21b : aMul false (.lst [.int w]) (.int (ln : Int)) = fun st => .ok (.lst ((List.replicate ln w).map .int)) st := by
    funext st
    have a1 : -9223372036854775808 ≤ (ln : Int) := by omega
    have a2 : (ln : Int) < 9223372036854775808 := by omega
    have a3 : ln ≤ 16777216 := by omega
    simp [aMul, mkL, a1, a2, a3]
  obtain ⟨RW, hRW⟩ : ∃ RW : D, RW = .lst ((List.replicate ln w).map .int) := ⟨_, rfl⟩
  have m21c : ∀ st, aNe RW RW st = .ok (.bl false) st := fun st => by rw [hRW]; exact ne_ints _ st
  rw [← hRW] at m21 m21b
  have m21d : ∀ st, dBin (aMul false) (dLst false (dCons (dVar 12) (dNil))) (dCall bLen (dCons (dVar 11) (dNil))) [x0, some (.ref n), some (.tup [.int y, .int m, .int d]), some (.tup [.int oy, .int om, .int od]), some (.int (wy N)), some (.int (wk N)), some (.int ((N - 1) % 7)), some (.lst [.tup [.int y, .int (wk (E - 7)), .int ((E - 7 - 1) % 7)], .tup [.int y, .int (wk (E - 3)), .int ((E - 3 - 1) % 7)], .tup [.int (wy E), .int (wk E), .int ((E - 1) % 7)]]), none, some (.int (wk (E - 3))), none, some (.lst ((rng 1 ln).map (fun t : Int => D.tup [.int y, .int m, .int t]))), some (.int w), some (.int p), some (.lst (SL.map (fun t : Int => D.tup [.int y, .int m, .int t]))), some DU, some (.int N), some (.int B1), some (.int B2), none, some (.tup (rowsD kk ln)), some (.lst (CL.map .int)), o22, none, none, none, none] st = .ok RW st := fun st =>
    mul_run (d := .int w) (i := (ln : Int)) rfl (by simp [aLeT, dSeq, dIfS, dNot, dB, dChain, dC, dVar, dRet, dRetN, dNext, dAndV, dOrV, dNotV, dAnd, dOr, dIf, dTru, truD, dBin, dCons, dNil, dTup, dLst, mkL, dCall, dAsg, dAug, dPar, dgName, dgTup, dgCons, dgNil, dDrop, R.bind, R.s, R.b, aLe, aLt, aGt, aGe, aSub, aAdd, aMul, aFdiv, aMod, aEq, aNe, aIsN, aNotN, D.isNon, aAddI, aIx, L2.atI, L2.ixN, beqi, seqA, seqL, seqR, okEq, norm, D.isSc, D.isStr, D.dat, D.dats, D.dep, D.deps, D.eqv, D.eqvs, dRaise, dNeg, bSum, bAbs, bInt, bMax2, bMin2, bLen, intsD, dSl, aSl, dP, dNoP, okMul, fm, fd, rng_len]) (congrFun m21b st)
  have k21 : p_law_21 [x0, some (.ref n), some (.tup [.int y, .int m, .int d]), some (.tup [.int oy, .int om, .int od]), some (.int (wy N)), some (.int (wk N)), some (.int ((N - 1) % 7)), some (.lst [.tup [.int y, .int (wk (E - 7)), .int ((E - 7 - 1) % 7)], .tup [.int y, .int (wk (E - 3)), .int ((E - 3 - 1) % 7)], .tup [.int (wy E), .int (wk E), .int ((E - 1) % 7)]]), none, some (.int (wk (E - 3))), none, some (.lst ((rng 1 ln).map (fun t : Int => D.tup [.int y, .int m, .int t]))), some (.int w), some (.int p), some (.lst (SL.map (fun t : Int => D.tup [.int y, .int m, .int t]))), some DU, some (.int N), some (.int B1), some (.int B2), none, some (.tup (rowsD kk ln)), some (.lst (CL.map .int)), o22, none, none, none, none] (st.set n (.lst [.int a4, .int b4, .int c4])) = .nx [x0, some (.ref n), some (.tup [.int y, .int m, .int d]), some (.tup [.int oy, .int om, .int od]), some (.int (wy N)), some (.int (wk N)), some (.int ((N - 1) % 7)), some (.lst [.tup [.int y, .int (wk (E - 7)), .int ((E - 7 - 1) % 7)], .tup [.int y, .int (wk (E - 3)), .int ((E - 3 - 1) % 7)], .tup [.int (wy E), .int (wk E), .int ((E - 1) % 7)]]), none, some (.int (wk (E - 3))), none, some (.lst ((rng 1 ln).map (fun t : Int => D.tup [.int y, .int m, .int t]))), some (.int w), some (.int p), some (.lst (SL.map (fun t : Int => D.tup [.int y, .int m, .int t]))), some DU, some (.int N), some (.int B1), some (.int B2), none, some (.tup (rowsD kk ln)), some (.lst (CL.map .int)), o22, none, none, none, none] (st.set n (.lst [.int a4, .int b4, .int c4])) := by
    unfold p_law_21
    exact ifs1 (m21 _) (m21d _) (m21c _)
  have m22a : ∀ st, dIndex (dVar 21) (dC (.int 1)) [x0, some (.ref n), some (.tup [.int y, .int m, .int d]), some (.tup [.int oy, .int om, .int od]), some (.int (wy N)), some (.int (wk N)), some (.int ((N - 1) % 7)), some (.lst [.tup [.int y, .int (wk (E - 7)), .int ((E - 7 - 1) % 7)], .tup [.int y, .int (wk (E - 3)), .int ((E - 3 - 1) % 7)], .tup [.int (wy E), .int (wk E), .int ((E - 1) % 7)]]), none, some (.int (wk (E - 3))), none, some (.lst ((rng 1 ln).map (fun t : Int => D.tup [.int y, .int m, .int t]))), some (.int w), some (.int p), some (.lst (SL.map (fun t : Int => D.tup [.int y, .int m, .int t]))), some DU, some (.int N), some (.int B1), some (.int B2), none, some (.tup (rowsD kk ln)), some (.lst (CL.map .int)), o22, none, none, none, none] st = .ok (.int (kk : Nat)) st := fun st => idx_run rfl rfl F7
  have m22b : ∀ st, dIndex (dVar 21) (dCall bLen (dCons (dVar 11) (dNil))) [x0, some (.ref n), some (.tup [.int y, .int m, .int d]), some (.tup [.int oy, .int om, .int od]), some (.int (wy N)), some (.int (wk N)), some (.int ((N - 1) % 7)), some (.lst [.tup [.int y, .int (wk (E - 7)), .int ((E - 7 - 1) % 7)], .tup [.int y, .int (wk (E - 3)), .int ((E - 3 - 1) % 7)], .tup [.int (wy E), .int (wk E), .int ((E - 1) % 7)]]), none, some (.int (wk (E - 3))), none, some (.lst ((rng 1 ln).map (fun t : Int => D.tup [.int y, .int m, .int t]))), some (.int w), some (.int p), some (.lst (SL.map (fun t : Int => D.tup [.int y, .int m, .int t]))), some DU, some (.int N), some (.int B1), some (.int B2), none, some (.tup (rowsD kk ln)), some (.lst (CL.map .int)), o22, none, none, none, none] st = .ok (.int ((kk + ln - 1 : Nat) : Int)) st := fun st => idx_run rfl (by simp [aLeT, dSeq, dIfS, dNot, dB, dChain, dC, dVar, dRet, dRetN, dNext, dAndV, dOrV, dNotV, dAnd, dOr, dIf, dTru, truD, dBin, dCons, dNil, dTup, dLst, mkL, dCall, dAsg, dAug, dPar, dgName, dgTup, dgCons, dgNil, dDrop, R.bind, R.s, R.b, aLe, aLt, aGt, aGe, aSub, aAdd, aMul, aFdiv, aMod, aEq, aNe, aIsN, aNotN, D.isNon, aAddI, aIx, L2.atI, L2.ixN, beqi, seqA, seqL, seqR, okEq, norm, D.isSc, D.isStr, D.dat, D.dats, D.dep, D.deps, D.eqv, D.eqvs, dRaise, dNeg, bSum, bAbs, bInt, bMax2, bMin2, bLen, intsD, dSl, aSl, dP, dNoP, okMul, fm, fd, rng_len]) F8
  obtain ⟨cut, hcut⟩ : ∃ cut, cut = cutI CL kk ((kk + ln - 1 : Nat) : Int) := ⟨_, rfl⟩
  have m22c : ∀ st, aSl false (.lst (CL.map .int)) (some ((kk : Nat) : Int)) (some ((kk + ln - 1 : Nat) : Int)) st = .ok (.lst (cut.map .int)) st := fun st => by
    rw [hcut]
    simp [aSl, seqL, mkL, cut_map]
  rw [← hcut] at F9
  have m22d : ∀ st, aIn false (.int 0) (.lst (cut.map .int)) st = .ok (.bl false) st := fun st => in_run F9 st
  have k22 : p_law_22 [x0, some (.ref n), some (.tup [.int y, .int m, .int d]), some (.tup [.int oy, .int om, .int od]), some (.int (wy N)), some (.int (wk N)), some (.int ((N - 1) % 7)), some (.lst [.tup [.int y, .int (wk (E - 7)), .int ((E - 7 - 1) % 7)], .tup [.int y, .int (wk (E - 3)), .int ((E - 3 - 1) % 7)], .tup [.int (wy E), .int (wk E), .int ((E - 1) % 7)]]), none, some (.int (wk (E - 3))), none, some (.lst ((rng 1 ln).map (fun t : Int => D.tup [.int y, .int m, .int t]))), some (.int w), some (.int p), some (.lst (SL.map (fun t : Int => D.tup [.int y, .int m, .int t]))), some DU, some (.int N), some (.int B1), some (.int B2), none, some (.tup (rowsD kk ln)), some (.lst (CL.map .int)), o22, none, none, none, none] (st.set n (.lst [.int a4, .int b4, .int c4])) = .nx [x0, some (.ref n), some (.tup [.int y, .int m, .int d]), some (.tup [.int oy, .int om, .int od]), some (.int (wy N)), some (.int (wk N)), some (.int ((N - 1) % 7)), some (.lst [.tup [.int y, .int (wk (E - 7)), .int ((E - 7 - 1) % 7)], .tup [.int y, .int (wk (E - 3)), .int ((E - 3 - 1) % 7)], .tup [.int (wy E), .int (wk E), .int ((E - 1) % 7)]]), none, some (.int (wk (E - 3))), none, some (.lst ((rng 1 ln).map (fun t : Int => D.tup [.int y, .int m, .int t]))), some (.int w), some (.int p), some (.lst (SL.map (fun t : Int => D.tup [.int y, .int m, .int t]))), some DU, some (.int N), some (.int B1), some (.int B2), none, some (.tup (rowsD kk ln)), some (.lst (CL.map .int)), o22, none, none, none, none] (st.set n (.lst [.int a4, .int b4, .int c4])) := by
    unfold p_law_22
    simp [aLeT, dSeq, dIfS, dNot, dB, dChain, dC, dVar, dRet, dRetN, dNext, dAndV, dOrV, dNotV, dAnd, dOr, dIf, dTru, truD, dBin, dCons, dNil, dTup, dLst, mkL, dCall, dAsg, dAug, dPar, dgName, dgTup, dgCons, dgNil, dDrop, R.bind, R.s, R.b, aLe, aLt, aGt, aGe, aSub, aAdd, aMul, aFdiv, aMod, aEq, aNe, aIsN, aNotN, D.isNon, aAddI, aIx, L2.atI, L2.ixN, beqi, seqA, seqL, seqR, okEq, norm, D.isSc, D.isStr, D.dat, D.dats, D.dep, D.deps, D.eqv, D.eqvs, dRaise, dNeg, bSum, bAbs, bInt, bMax2, bMin2, bLen, intsD, dSl, dP, dNoP, okMul, fm, fd, m22a, m22b, m22c, m22d]
  obtain ⟨r4, a5, b5, c5, p5, q5, s5⟩ := e_roll 4 t4 (by decide) (by decide)
  have t5 := lstAt_set (es := [.int a5, .int b5, .int c5]) hs
  rw [List.set_set] at s5
  obtain ⟨ws, a6, b6, c6, hwl, hws, q23⟩ := lcRoll (env := [x0, some (.ref n), some (.tup [.int y, .int m, .int d]), some (.tup [.int oy, .int om, .int od]), some (.int (wy N)), some (.int (wk N)), some (.int ((N - 1) % 7)), some (.lst [.tup [.int y, .int (wk (E - 7)), .int ((E - 7 - 1) % 7)], .tup [.int y, .int (wk (E - 3)), .int ((E - 3 - 1) % 7)], .tup [.int (wy E), .int (wk E), .int ((E - 1) % 7)]]), none, some (.int (wk (E - 3))), none, some (.lst ((rng 1 ln).map (fun t : Int => D.tup [.int y, .int m, .int t]))), some (.int w), some (.int p), some (.lst (SL.map (fun t : Int => D.tup [.int y, .int m, .int t]))), some DU, some (.int N), some (.int B1), some (.int B2), none, some (.tup (rowsD kk ln)), some (.lst (CL.map .int)), o22, none, none, none, none]) (fun v => rfl) (rng 0 r4.toNat) _ _ _ _ t5
  have t6 := lstAt_set (es := [.int a6, .int b6, .int c6]) hs
  rw [List.set_set] at q23
  obtain ⟨rf, a7, b7, c7, p7, q7, s7⟩ := e_roll 60 t6 (by decide) (by decide)
  have t7 := lstAt_set (es := [.int a7, .int b7, .int c7]) hs
  rw [List.set_set] at s7
  obtain ⟨far, hfar⟩ : ∃ far, far = rf - 5 := ⟨_, rfl⟩
  have r23 : rangeD 0 r4 = (rng 0 r4.toNat).map .int := by rw [rngD, Int.sub_zero]
  have b23 : bnd r4 = true := by unfold bnd; simp; omega
  have hws3 : ws.length ≤ 3 := by rw [hwl, rng_len]; omega
  have m23 : dLc false (dRng1 (dCall f__law_roll (dCons (dVar 1) (dCons (dC (.int 4)) (dNil))))) (dgName 19) (dYes) y_law_10 [19] [x0, some (.ref n), some (.tup [.int y, .int m, .int d]), some (.tup [.int oy, .int om, .int od]), some (.int (wy N)), some (.int (wk N)), some (.int ((N - 1) % 7)), some (.lst [.tup [.int y, .int (wk (E - 7)), .int ((E - 7 - 1) % 7)], .tup [.int y, .int (wk (E - 3)), .int ((E - 3 - 1) % 7)], .tup [.int (wy E), .int (wk E), .int ((E - 1) % 7)]]), none, some (.int (wk (E - 3))), none, some (.lst ((rng 1 ln).map (fun t : Int => D.tup [.int y, .int m, .int t]))), some (.int w), some (.int p), some (.lst (SL.map (fun t : Int => D.tup [.int y, .int m, .int t]))), some DU, some (.int N), some (.int B1), some (.int B2), none, some (.tup (rowsD kk ln)), some (.lst (CL.map .int)), o22, none, none, none, none] (st.set n (.lst [.int a4, .int b4, .int c4])) = .ok (.lst (ws.map .int)) (st.set n (.lst [.int a6, .int b6, .int c6])) := by
    refine lc_run2 (ds := (rng 0 r4.toNat).map .int) (st1 := (st.set n (.lst [.int a5, .int b5, .int c5]))) ?_ (by rw [List.length_map, rng_len]; omega) q23
    simp [aLeT, dSeq, dIfS, dNot, dB, dChain, dC, dVar, dRet, dRetN, dNext, dAndV, dOrV, dNotV, dAnd, dOr, dIf, dTru, truD, dBin, dCons, dNil, dTup, dLst, mkL, dCall, dAsg, dAug, dPar, dgName, dgTup, dgCons, dgNil, dDrop, R.bind, R.s, R.b, aLe, aLt, aGt, aGe, aSub, aAdd, aMul, aFdiv, aMod, aEq, aNe, aIsN, aNotN, D.isNon, aAddI, aIx, L2.atI, L2.ixN, beqi, seqA, seqL, seqR, okEq, norm, D.isSc, D.isStr, D.dat, D.dats, D.dep, D.deps, D.eqv, D.eqvs, dRaise, dNeg, bSum, bAbs, bInt, bMax2, bMin2, bLen, intsD, dSl, aSl, dP, dNoP, okMul, fm, fd, dRng1, s5, b23, r23]
  have k23 : p_law_23 [x0, some (.ref n), some (.tup [.int y, .int m, .int d]), some (.tup [.int oy, .int om, .int od]), some (.int (wy N)), some (.int (wk N)), some (.int ((N - 1) % 7)), some (.lst [.tup [.int y, .int (wk (E - 7)), .int ((E - 7 - 1) % 7)], .tup [.int y, .int (wk (E - 3)), .int ((E - 3 - 1) % 7)], .tup [.int (wy E), .int (wk E), .int ((E - 1) % 7)]]), none, some (.int (wk (E - 3))), none, some (.lst ((rng 1 ln).map (fun t : Int => D.tup [.int y, .int m, .int t]))), some (.int w), some (.int p), some (.lst (SL.map (fun t : Int => D.tup [.int y, .int m, .int t]))), some DU, some (.int N), some (.int B1), some (.int B2), none, some (.tup (rowsD kk ln)), some (.lst (CL.map .int)), o22, none, none, none, none] (st.set n (.lst [.int a4, .int b4, .int c4])) = .nx [x0, some (.ref n), some (.tup [.int y, .int m, .int d]), some (.tup [.int oy, .int om, .int od]), some (.int (wy N)), some (.int (wk N)), some (.int ((N - 1) % 7)), some (.lst [.tup [.int y, .int (wk (E - 7)), .int ((E - 7 - 1) % 7)], .tup [.int y, .int (wk (E - 3)), .int ((E - 3 - 1) % 7)], .tup [.int (wy E), .int (wk E), .int ((E - 1) % 7)]]), none, some (.int (wk (E - 3))), none, some (.lst ((rng 1 ln).map (fun t : Int => D.tup [.int y, .int m, .int t]))), some (.int w), some (.int p), some (.lst (SL.map (fun t : Int => D.tup [.int y, .int m, .int t]))), some DU, some (.int N), some (.int B1), some (.int B2), none, some (.tup (rowsD kk ln)), some (.lst (CL.map .int)), o22, some (.lst (ws.map .int)), some (.int far), none, none] (st.set n (.lst [.int a7, .int b7, .int c7])) := by
    unfold p_law_23
    simp [aLeT, dSeq, dIfS, dNot, dB, dChain, dC, dVar, dRet, dRetN, dNext, dAndV, dOrV, dNotV, dAnd, dOr, dIf, dTru, truD, dBin, dCons, dNil, dTup, dLst, mkL, dCall, dAsg, dAug, dPar, dgName, dgTup, dgCons, dgNil, dDrop, R.bind, R.s, R.b, aLe, aLt, aGt, aGe, aSub, aAdd, aMul, aFdiv, aMod, aEq, aNe, aIsN, aNotN, D.isNon, aAddI, aIx, L2.atI, L2.ixN, beqi, seqA, seqL, seqR, okEq, norm, D.isSc, D.isStr, D.dat, D.dats, D.dep, D.deps, D.eqv, D.eqvs, dRaise, dNeg, bSum, bAbs, bInt, bMax2, bMin2, bLen, intsD, dSl, aSl, dP, dNoP, okMul, fm, fd, m23, s7, hfar]
  have hNf : 1 ≤ N + far ∧ N + far ≤ 3652059 := by omega
  have f24 := fun st => e_date2 hNf st
  have k24 : p_law_24 [x0, some (.ref n), some (.tup [.int y, .int m, .int d]), some (.tup [.int oy, .int om, .int od]), some (.int (wy N)), some (.int (wk N)), some (.int ((N - 1) % 7)), some (.lst [.tup [.int y, .int (wk (E - 7)), .int ((E - 7 - 1) % 7)], .tup [.int y, .int (wk (E - 3)), .int ((E - 3 - 1) % 7)], .tup [.int (wy E), .int (wk E), .int ((E - 1) % 7)]]), none, some (.int (wk (E - 3))), none, some (.lst ((rng 1 ln).map (fun t : Int => D.tup [.int y, .int m, .int t]))), some (.int w), some (.int p), some (.lst (SL.map (fun t : Int => D.tup [.int y, .int m, .int t]))), some DU, some (.int N), some (.int B1), some (.int B2), none, some (.tup (rowsD kk ln)), some (.lst (CL.map .int)), o22, some (.lst (ws.map .int)), some (.int far), none, none] (st.set n (.lst [.int a7, .int b7, .int c7])) = .nx [x0, some (.ref n), some (.tup [.int y, .int m, .int d]), some (.tup [.int oy, .int om, .int od]), some (.int (wy N)), some (.int (wk N)), some (.int ((N - 1) % 7)), some (.lst [.tup [.int y, .int (wk (E - 7)), .int ((E - 7 - 1) % 7)], .tup [.int y, .int (wk (E - 3)), .int ((E - 3 - 1) % 7)], .tup [.int (wy E), .int (wk E), .int ((E - 1) % 7)]]), none, some (.int (wk (E - 3))), none, some (.lst ((rng 1 ln).map (fun t : Int => D.tup [.int y, .int m, .int t]))), some (.int w), some (.int p), some (.lst (SL.map (fun t : Int => D.tup [.int y, .int m, .int t]))), some DU, some (.int N), some (.int B1), some (.int B2), none, some (.tup (rowsD kk ln)), some (.lst (CL.map .int)), o22, some (.lst (ws.map .int)), some (.int far), some (datD (N + far)), none] (st.set n (.lst [.int a7, .int b7, .int c7])) := by
    unfold p_law_24
    simp [aLeT, dSeq, dIfS, dNot, dB, dChain, dC, dVar, dRet, dRetN, dNext, dAndV, dOrV, dNotV, dAnd, dOr, dIf, dTru, truD, dBin, dCons, dNil, dTup, dLst, mkL, dCall, dAsg, dAug, dPar, dgName, dgTup, dgCons, dgNil, dDrop, R.bind, R.s, R.b, aLe, aLt, aGt, aGe, aSub, aAdd, aMul, aFdiv, aMod, aEq, aNe, aIsN, aNotN, D.isNon, aAddI, aIx, L2.atI, L2.ixN, beqi, seqA, seqL, seqR, okEq, norm, D.isSc, D.isStr, D.dat, D.dats, D.dep, D.deps, D.eqv, D.eqvs, dRaise, dNeg, bSum, bAbs, bInt, bMax2, bMin2, bLen, intsD, dSl, aSl, dP, dNoP, okMul, fm, fd, f24]
  obtain ⟨VE, nE⟩ := dat_spec hNf
  have f25 := fun st => e_count V VE hws (by omega) st
  rw [nE, ← hN] at f25
  have f25 : ∀ st, f_count_weekdays [.tup [.int y, .int m, .int d], datD (N + far), .lst (ws.map .int)] st = .ok (.int (tot (cnt N (N + far)) (sortI (uniq [] ws)))) st := f25
  have f25b := count_ok N (N + far) ws hws (by omega)
  rw [← f25b] at f25
  have r25 : rangeD N (N + far + 1) = (rng N (N + far + 1 - N).toNat).map .int := rngD _ _
  have q25 := fun st => lcF (gt := dgName 19) (ft := (dB (dBin (aIn false) (dBin aMod (dBin (aAdd false) (dVar 19) (dC (.int 6))) (dC (.int 7))) (dVar 23)))) (fe := y_law_11) (env := [x0, some (.ref n), some (.tup [.int y, .int m, .int d]), some (.tup [.int oy, .int om, .int od]), some (.int (wy N)), some (.int (wk N)), some (.int ((N - 1) % 7)), some (.lst [.tup [.int y, .int (wk (E - 7)), .int ((E - 7 - 1) % 7)], .tup [.int y, .int (wk (E - 3)), .int ((E - 3 - 1) % 7)], .tup [.int (wy E), .int (wk E), .int ((E - 1) % 7)]]), none, some (.int (wk (E - 3))), none, some (.lst ((rng 1 ln).map (fun t : Int => D.tup [.int y, .int m, .int t]))), some (.int w), some (.int p), some (.lst (SL.map (fun t : Int => D.tup [.int y, .int m, .int t]))), some DU, some (.int N), some (.int B1), some (.int B2), none, some (.tup (rowsD kk ln)), some (.lst (CL.map .int)), o22, some (.lst (ws.map .int)), some (.int far), some (datD (N + far)), none]) (st := st) .int .int (fun k => [x0, some (.ref n), some (.tup [.int y, .int m, .int d]), some (.tup [.int oy, .int om, .int od]), some (.int (wy N)), some (.int (wk N)), some (.int ((N - 1) % 7)), some (.lst [.tup [.int y, .int (wk (E - 7)), .int ((E - 7 - 1) % 7)], .tup [.int y, .int (wk (E - 3)), .int ((E - 3 - 1) % 7)], .tup [.int (wy E), .int (wk E), .int ((E - 1) % 7)]]), none, some (.int (wk (E - 3))), none, some (.lst ((rng 1 ln).map (fun t : Int => D.tup [.int y, .int m, .int t]))), some (.int w), some (.int p), some (.lst (SL.map (fun t : Int => D.tup [.int y, .int m, .int t]))), some DU, some (.int N), some (.int B1), some (.int B2), some (.int k), some (.tup (rowsD kk ln)), some (.lst (CL.map .int)), o22, some (.lst (ws.map .int)), some (.int far), some (datD (N + far)), none]) (fun k => ws.any fun w => w == (k + 6) % 7) (rng N (N + far + 1 - N).toNat) (fun k hk => by
    refine ⟨rfl, ?_, fun _ => ?_⟩
    · have := fun st => in_any ((k + 6) % 7) ws st
      simp only [dB, dBin, dCons, dVar, dC, R.bind, List.getElem?_cons_zero, List.getElem?_cons_succ, aAdd, aMod, fm7, ne_eq, this]
      simp [fm7, this]
    · unfold y_law_11
      simp [aLeT, dSeq, dIfS, dNot, dB, dChain, dC, dVar, dRet, dRetN, dNext, dAndV, dOrV, dNotV, dAnd, dOr, dIf, dTru, truD, dBin, dCons, dNil, dTup, dLst, mkL, dCall, dAsg, dAug, dPar, dgName, dgTup, dgCons, dgNil, dDrop, R.bind, R.s, R.b, aLe, aLt, aGt, aGe, aSub, aAdd, aMul, aFdiv, aMod, aEq, aNe, aIsN, aNotN, D.isNon, aAddI, aIx, L2.atI, L2.ixN, beqi, seqA, seqL, seqR, okEq, norm, D.isSc, D.isStr, D.dat, D.dats, D.dep, D.deps, D.eqv, D.eqvs, dRaise, dNeg, bSum, bAbs, bInt, bMax2, bMin2, bLen, intsD, dSl, aSl, dP, dNoP, okMul, fm, fd])
  obtain ⟨RR, hRR⟩ : ∃ RR, RR = (rng N (N + far + 1 - N).toNat).filter fun k => ws.any fun w => w == (k + 6) % 7 := ⟨_, rfl⟩
  rw [← hRR] at q25 f25
  have m25 : ∀ st, dLc false (dRng2 (dVar 16) (dBin (aAdd false) (dBin (aAdd false) (dVar 16) (dVar 24)) (dC (.int 1)))) (dgName 19) (dB (dBin (aIn false) (dBin aMod (dBin (aAdd false) (dVar 19) (dC (.int 6))) (dC (.int 7))) (dVar 23))) y_law_11 [19] [x0, some (.ref n), some (.tup [.int y, .int m, .int d]), some (.tup [.int oy, .int om, .int od]), some (.int (wy N)), some (.int (wk N)), some (.int ((N - 1) % 7)), some (.lst [.tup [.int y, .int (wk (E - 7)), .int ((E - 7 - 1) % 7)], .tup [.int y, .int (wk (E - 3)), .int ((E - 3 - 1) % 7)], .tup [.int (wy E), .int (wk E), .int ((E - 1) % 7)]]), none, some (.int (wk (E - 3))), none, some (.lst ((rng 1 ln).map (fun t : Int => D.tup [.int y, .int m, .int t]))), some (.int w), some (.int p), some (.lst (SL.map (fun t : Int => D.tup [.int y, .int m, .int t]))), some DU, some (.int N), some (.int B1), some (.int B2), none, some (.tup (rowsD kk ln)), some (.lst (CL.map .int)), o22, some (.lst (ws.map .int)), some (.int far), some (datD (N + far)), none] st = .ok (.lst (RR.map .int)) st := fun st => by
    have b25 : bnd (N + far + 1) = true := by unfold bnd; simp; omega
    refine lc_run (ds := (rng N (N + far + 1 - N).toNat).map .int) ?_ (by rw [List.length_map, rng_len]; omega) (q25 st)
    simp [aLeT, dSeq, dIfS, dNot, dB, dChain, dC, dVar, dRet, dRetN, dNext, dAndV, dOrV, dNotV, dAnd, dOr, dIf, dTru, truD, dBin, dCons, dNil, dTup, dLst, mkL, dCall, dAsg, dAug, dPar, dgName, dgTup, dgCons, dgNil, dDrop, R.bind, R.s, R.b, aLe, aLt, aGt, aGe, aSub, aAdd, aMul, aFdiv, aMod, aEq, aNe, aIsN, aNotN, D.isNon, aAddI, aIx, L2.atI, L2.ixN, beqi, seqA, seqL, seqR, okEq, norm, D.isSc, D.isStr, D.dat, D.dats, D.dep, D.deps, D.eqv, D.eqvs, dRaise, dNeg, bSum, bAbs, bInt, bMax2, bMin2, bLen, intsD, dSl, aSl, dP, dNoP, okMul, fm, fd, dRng2, bN0, b25, r25]
  have k25 : p_law_25 [x0, some (.ref n), some (.tup [.int y, .int m, .int d]), some (.tup [.int oy, .int om, .int od]), some (.int (wy N)), some (.int (wk N)), some (.int ((N - 1) % 7)), some (.lst [.tup [.int y, .int (wk (E - 7)), .int ((E - 7 - 1) % 7)], .tup [.int y, .int (wk (E - 3)), .int ((E - 3 - 1) % 7)], .tup [.int (wy E), .int (wk E), .int ((E - 1) % 7)]]), none, some (.int (wk (E - 3))), none, some (.lst ((rng 1 ln).map (fun t : Int => D.tup [.int y, .int m, .int t]))), some (.int w), some (.int p), some (.lst (SL.map (fun t : Int => D.tup [.int y, .int m, .int t]))), some DU, some (.int N), some (.int B1), some (.int B2), none, some (.tup (rowsD kk ln)), some (.lst (CL.map .int)), o22, some (.lst (ws.map .int)), some (.int far), some (datD (N + far)), none] (st.set n (.lst [.int a7, .int b7, .int c7])) = .nx [x0, some (.ref n), some (.tup [.int y, .int m, .int d]), some (.tup [.int oy, .int om, .int od]), some (.int (wy N)), some (.int (wk N)), some (.int ((N - 1) % 7)), some (.lst [.tup [.int y, .int (wk (E - 7)), .int ((E - 7 - 1) % 7)], .tup [.int y, .int (wk (E - 3)), .int ((E - 3 - 1) % 7)], .tup [.int (wy E), .int (wk E), .int ((E - 1) % 7)]]), none, some (.int (wk (E - 3))), none, some (.lst ((rng 1 ln).map (fun t : Int => D.tup [.int y, .int m, .int t]))), some (.int w), some (.int p), some (.lst (SL.map (fun t : Int => D.tup [.int y, .int m, .int t]))), some DU, some (.int N), some (.int B1), some (.int B2), none, some (.tup (rowsD kk ln)), some (.lst (CL.map .int)), o22, some (.lst (ws.map .int)), some (.int far), some (datD (N + far)), none] (st.set n (.lst [.int a7, .int b7, .int c7])) := by
    unfold p_law_25
    simp [aLeT, dSeq, dIfS, dNot, dB, dChain, dC, dVar, dRet, dRetN, dNext, dAndV, dOrV, dNotV, dAnd, dOr, dIf, dTru, truD, dBin, dCons, dNil, dTup, dLst, mkL, dCall, dAsg, dAug, dPar, dgName, dgTup, dgCons, dgNil, dDrop, R.bind, R.s, R.b, aLe, aLt, aGt, aGe, aSub, aAdd, aMul, aFdiv, aMod, aEq, aNe, aIsN, aNotN, D.isNon, aAddI, aIx, L2.atI, L2.ixN, beqi, seqA, seqL, seqR, okEq, norm, D.isSc, D.isStr, D.dat, D.dats, D.dep, D.deps, D.eqv, D.eqvs, dRaise, dNeg, bSum, bAbs, bInt, bMax2, bMin2, bLen, intsD, dSl, aSl, dP, dNoP, okMul, fm, fd, f25, m25]
  have hoy := VO.1.1
  have f26a := fun st => e_num' (v_jan hyy) st
  have f26b := fun st => e_num' (v_jan hoy) st
  rw [num_jan] at f26a f26b
  have k26 : p_law_26 [x0, some (.ref n), some (.tup [.int y, .int m, .int d]), some (.tup [.int oy, .int om, .int od]), some (.int (wy N)), some (.int (wk N)), some (.int ((N - 1) % 7)), some (.lst [.tup [.int y, .int (wk (E - 7)), .int ((E - 7 - 1) % 7)], .tup [.int y, .int (wk (E - 3)), .int ((E - 3 - 1) % 7)], .tup [.int (wy E), .int (wk E), .int ((E - 1) % 7)]]), none, some (.int (wk (E - 3))), none, some (.lst ((rng 1 ln).map (fun t : Int => D.tup [.int y, .int m, .int t]))), some (.int w), some (.int p), some (.lst (SL.map (fun t : Int => D.tup [.int y, .int m, .int t]))), some DU, some (.int N), some (.int B1), some (.int B2), none, some (.tup (rowsD kk ln)), some (.lst (CL.map .int)), o22, some (.lst (ws.map .int)), some (.int far), some (datD (N + far)), none] (st.set n (.lst [.int a7, .int b7, .int c7])) = .nx [x0, some (.ref n), some (.tup [.int y, .int m, .int d]), some (.tup [.int oy, .int om, .int od]), some (.int (wy N)), some (.int (wk N)), some (.int ((N - 1) % 7)), some (.lst [.tup [.int y, .int (wk (E - 7)), .int ((E - 7 - 1) % 7)], .tup [.int y, .int (wk (E - 3)), .int ((E - 3 - 1) % 7)], .tup [.int (wy E), .int (wk E), .int ((E - 1) % 7)]]), none, some (.int (wk (E - 3))), none, some (.lst ((rng 1 ln).map (fun t : Int => D.tup [.int y, .int m, .int t]))), some (.int w), some (.int p), some (.lst (SL.map (fun t : Int => D.tup [.int y, .int m, .int t]))), some DU, some (.int N), some (.int B1), some (.int B2), none, some (.tup (rowsD kk ln)), some (.lst (CL.map .int)), o22, some (.lst (ws.map .int)), some (.int far), some (datD (N + far)), some (.lst [.int ((dby y + 1) % 7), .int ((dby oy + 1) % 7)])] (st.set n (.lst [.int a7, .int b7, .int c7])) := by
    unfold p_law_26
    simp [aLeT, dSeq, dIfS, dNot, dB, dChain, dC, dVar, dRet, dRetN, dNext, dAndV, dOrV, dNotV, dAnd, dOr, dIf, dTru, truD, dBin, dCons, dNil, dTup, dLst, mkL, dCall, dAsg, dAug, dPar, dgName, dgTup, dgCons, dgNil, dDrop, R.bind, R.s, R.b, aLe, aLt, aGt, aGe, aSub, aAdd, aMul, aFdiv, aMod, aEq, aNe, aIsN, aNotN, D.isNon, aAddI, aIx, L2.atI, L2.ixN, beqi, seqA, seqL, seqR, okEq, norm, D.isSc, D.isStr, D.dat, D.dats, D.dep, D.deps, D.eqv, D.eqvs, dRaise, dNeg, bSum, bAbs, bInt, bMax2, bMin2, bLen, intsD, dSl, aSl, dP, dNoP, okMul, fm, fd, dLc, dIt, gdOf, lcD, gdOk, dYes, wipeE, y_law_12, f26a, f26b, fm7]
  have f27 := fun st => e_same hyy hoy st
  have f27a := fun st => (e_dim y 2 st).trans (if_pos ⟨hyy, by decide, by decide⟩)
  have f27b := fun st => (e_dim oy 2 st).trans (if_pos ⟨hoy, by decide, by decide⟩)
  have f28 := fun st => e_wfrom V VO st
  have f28b := fun st => e_num' VO st
  rw [← hN] at f28
  have g28 : (num oy om od - (num oy om od + 6) % 7 - N + (N - 1) % 7) / 7 = (num oy om od - (num oy om od - 1) % 7 - (N - (N - 1) % 7)) / 7 := by
    rw [show num oy om od - (num oy om od + 6) % 7 - N + (N - 1) % 7 = num oy om od - (num oy om od - 1) % 7 - (N - (N - 1) % 7) by omega]
  have k27 : p_law_27 [x0, some (.ref n), some (.tup [.int y, .int m, .int d]), some (.tup [.int oy, .int om, .int od]), some (.int (wy N)), some (.int (wk N)), some (.int ((N - 1) % 7)), some (.lst [.tup [.int y, .int (wk (E - 7)), .int ((E - 7 - 1) % 7)], .tup [.int y, .int (wk (E - 3)), .int ((E - 3 - 1) % 7)], .tup [.int (wy E), .int (wk E), .int ((E - 1) % 7)]]), none, some (.int (wk (E - 3))), none, some (.lst ((rng 1 ln).map (fun t : Int => D.tup [.int y, .int m, .int t]))), some (.int w), some (.int p), some (.lst (SL.map (fun t : Int => D.tup [.int y, .int m, .int t]))), some DU, some (.int N), some (.int B1), some (.int B2), none, some (.tup (rowsD kk ln)), some (.lst (CL.map .int)), o22, some (.lst (ws.map .int)), some (.int far), some (datD (N + far)), some (.lst [.int ((dby y + 1) % 7), .int ((dby oy + 1) % 7)])] (st.set n (.lst [.int a7, .int b7, .int c7])) = .nx [x0, some (.ref n), some (.tup [.int y, .int m, .int d]), some (.tup [.int oy, .int om, .int od]), some (.int (wy N)), some (.int (wk N)), some (.int ((N - 1) % 7)), some (.lst [.tup [.int y, .int (wk (E - 7)), .int ((E - 7 - 1) % 7)], .tup [.int y, .int (wk (E - 3)), .int ((E - 3 - 1) % 7)], .tup [.int (wy E), .int (wk E), .int ((E - 1) % 7)]]), none, some (.int (wk (E - 3))), none, some (.lst ((rng 1 ln).map (fun t : Int => D.tup [.int y, .int m, .int t]))), some (.int w), some (.int p), some (.lst (SL.map (fun t : Int => D.tup [.int y, .int m, .int t]))), some DU, some (.int N), some (.int B1), some (.int B2), none, some (.tup (rowsD kk ln)), some (.lst (CL.map .int)), o22, some (.lst (ws.map .int)), some (.int far), some (datD (N + far)), some (.lst [.int ((dby y + 1) % 7), .int ((dby oy + 1) % 7)])] (st.set n (.lst [.int a7, .int b7, .int c7])) := by
    unfold p_law_27
    by_cases c1 : dby y % 7 = dby oy % 7
    · have c2 : (dby y + 1) % 7 = (dby oy + 1) % 7 := by omega
      by_cases c3 : dim y 2 = dim oy 2
      · simp [aLeT, dSeq, dIfS, dNot, dB, dChain, dC, dVar, dRet, dRetN, dNext, dAndV, dOrV, dNotV, dAnd, dOr, dIf, dTru, truD, dBin, dCons, dNil, dTup, dLst, mkL, dCall, dAsg, dAug, dPar, dgName, dgTup, dgCons, dgNil, dDrop, R.bind, R.s, R.b, aLe, aLt, aGt, aGe, aSub, aAdd, aMul, aFdiv, aMod, aEq, aNe, aIsN, aNotN, D.isNon, aAddI, aIx, L2.atI, L2.ixN, beqi, seqA, seqL, seqR, okEq, norm, D.isSc, D.isStr, D.dat, D.dats, D.dep, D.deps, D.eqv, D.eqvs, dRaise, dNeg, bSum, bAbs, bInt, bMax2, bMin2, bLen, intsD, dSl, aSl, dP, dNoP, okMul, fm, fd, f27, f27a, f27b, c1, c2, c3]
      · simp [aLeT, dSeq, dIfS, dNot, dB, dChain, dC, dVar, dRet, dRetN, dNext, dAndV, dOrV, dNotV, dAnd, dOr, dIf, dTru, truD, dBin, dCons, dNil, dTup, dLst, mkL, dCall, dAsg, dAug, dPar, dgName, dgTup, dgCons, dgNil, dDrop, R.bind, R.s, R.b, aLe, aLt, aGt, aGe, aSub, aAdd, aMul, aFdiv, aMod, aEq, aNe, aIsN, aNotN, D.isNon, aAddI, aIx, L2.atI, L2.ixN, beqi, seqA, seqL, seqR, okEq, norm, D.isSc, D.isStr, D.dat, D.dats, D.dep, D.deps, D.eqv, D.eqvs, dRaise, dNeg, bSum, bAbs, bInt, bMax2, bMin2, bLen, intsD, dSl, aSl, dP, dNoP, okMul, fm, fd, f27, f27a, f27b, c1, c2, c3]
    · have c2 : ¬ (dby y + 1) % 7 = (dby oy + 1) % 7 := by omega
      simp [aLeT, dSeq, dIfS, dNot, dB, dChain, dC, dVar, dRet, dRetN, dNext, dAndV, dOrV, dNotV, dAnd, dOr, dIf, dTru, truD, dBin, dCons, dNil, dTup, dLst, mkL, dCall, dAsg, dAug, dPar, dgName, dgTup, dgCons, dgNil, dDrop, R.bind, R.s, R.b, aLe, aLt, aGt, aGe, aSub, aAdd, aMul, aFdiv, aMod, aEq, aNe, aIsN, aNotN, D.isNon, aAddI, aIx, L2.atI, L2.ixN, beqi, seqA, seqL, seqR, okEq, norm, D.isSc, D.isStr, D.dat, D.dats, D.dep, D.deps, D.eqv, D.eqvs, dRaise, dNeg, bSum, bAbs, bInt, bMax2, bMin2, bLen, intsD, dSl, aSl, dP, dNoP, okMul, fm, fd, f27, f27a, f27b, c1, c2]
  have k28 : p_law_28 [x0, some (.ref n), some (.tup [.int y, .int m, .int d]), some (.tup [.int oy, .int om, .int od]), some (.int (wy N)), some (.int (wk N)), some (.int ((N - 1) % 7)), some (.lst [.tup [.int y, .int (wk (E - 7)), .int ((E - 7 - 1) % 7)], .tup [.int y, .int (wk (E - 3)), .int ((E - 3 - 1) % 7)], .tup [.int (wy E), .int (wk E), .int ((E - 1) % 7)]]), none, some (.int (wk (E - 3))), none, some (.lst ((rng 1 ln).map (fun t : Int => D.tup [.int y, .int m, .int t]))), some (.int w), some (.int p), some (.lst (SL.map (fun t : Int => D.tup [.int y, .int m, .int t]))), some DU, some (.int N), some (.int B1), some (.int B2), none, some (.tup (rowsD kk ln)), some (.lst (CL.map .int)), o22, some (.lst (ws.map .int)), some (.int far), some (datD (N + far)), some (.lst [.int ((dby y + 1) % 7), .int ((dby oy + 1) % 7)])] (st.set n (.lst [.int a7, .int b7, .int c7])) = .nx [x0, some (.ref n), some (.tup [.int y, .int m, .int d]), some (.tup [.int oy, .int om, .int od]), some (.int (wy N)), some (.int (wk N)), some (.int ((N - 1) % 7)), some (.lst [.tup [.int y, .int (wk (E - 7)), .int ((E - 7 - 1) % 7)], .tup [.int y, .int (wk (E - 3)), .int ((E - 3 - 1) % 7)], .tup [.int (wy E), .int (wk E), .int ((E - 1) % 7)]]), none, some (.int (wk (E - 3))), none, some (.lst ((rng 1 ln).map (fun t : Int => D.tup [.int y, .int m, .int t]))), some (.int w), some (.int p), some (.lst (SL.map (fun t : Int => D.tup [.int y, .int m, .int t]))), some DU, some (.int N), some (.int B1), some (.int B2), none, some (.tup (rowsD kk ln)), some (.lst (CL.map .int)), o22, some (.lst (ws.map .int)), some (.int far), some (datD (N + far)), some (.lst [.int ((dby y + 1) % 7), .int ((dby oy + 1) % 7)])] (st.set n (.lst [.int a7, .int b7, .int c7])) := by
    unfold p_law_28
    simp [aLeT, dSeq, dIfS, dNot, dB, dChain, dC, dVar, dRet, dRetN, dNext, dAndV, dOrV, dNotV, dAnd, dOr, dIf, dTru, truD, dBin, dCons, dNil, dTup, dLst, mkL, dCall, dAsg, dAug, dPar, dgName, dgTup, dgCons, dgNil, dDrop, R.bind, R.s, R.b, aLe, aLt, aGt, aGe, aSub, aAdd, aMul, aFdiv, aMod, aEq, aNe, aIsN, aNotN, D.isNon, aAddI, aIx, L2.atI, L2.ixN, beqi, seqA, seqL, seqR, okEq, norm, D.isSc, D.isStr, D.dat, D.dats, D.dep, D.deps, D.eqv, D.eqvs, dRaise, dNeg, bSum, bAbs, bInt, bMax2, bMin2, bLen, intsD, dSl, aSl, dP, dNoP, okMul, fm, fd, f28, f28b, fm7, fd7, g28]
  refine ⟨[x0, some (.ref n), some (.tup [.int y, .int m, .int d]), some (.tup [.int oy, .int om, .int od]), some (.int (wy N)), some (.int (wk N)), some (.int ((N - 1) % 7)), some (.lst [.tup [.int y, .int (wk (E - 7)), .int ((E - 7 - 1) % 7)], .tup [.int y, .int (wk (E - 3)), .int ((E - 3 - 1) % 7)], .tup [.int (wy E), .int (wk E), .int ((E - 1) % 7)]]), none, some (.int (wk (E - 3))), none, some (.lst ((rng 1 ln).map (fun t : Int => D.tup [.int y, .int m, .int t]))), some (.int w), some (.int p), some (.lst (SL.map (fun t : Int => D.tup [.int y, .int m, .int t]))), some DU, some (.int N), some (.int B1), some (.int B2), none, some (.tup (rowsD kk ln)), some (.lst (CL.map .int)), o22, some (.lst (ws.map .int)), some (.int far), some (datD (N + far)), some (.lst [.int ((dby y + 1) % 7), .int ((dby oy + 1) % 7)])], a7, b7, c7, ?_⟩
  unfold l_law_2
  show (dSeq p_law_1 _) [x0, some (.ref n), none, none, none, none, none, none, none, none, none, none, none, none, none, none, none, none, none, none, none, none, none, none, none, none, none] st = _
  simp only [dSeq, k1, k2, k3, k4, k5, k6, k7, k8, k9, k10, k11, k12, k13, k14, k15, k16, k17, k18, k19, k20, k21, k22, k23, k24, k25, k26, k27, k28]
end K02

namespace K02
open PySem G
theorem law_true : ∀ ns : List Int, ns.length ≤ 63 → ∃ st, f_law [.scr ns] [] = .ok (.bl true) st := by
  intro ns _
  obtain ⟨a, b, c, e⟩ := e_rounds ns
  obtain ⟨env, a1, b1, c1, t⟩ := turn (st := [.lst [.int a, .int b, .int c]]) (n := 0) (a := a) (b := b) (c := c) (some (.scr ns)) (fun _ _ _ => rfl) rfl
  unfold f_law b_law runB
  refine ⟨[.lst [.int a1, .int b1, .int c1]], ?_⟩
  simp [List.replicate] at t
  simp [aLeT, dSeq, dIfS, dNot, dB, dChain, dC, dVar, dRet, dRetN, dNext, dAndV, dOrV, dNotV, dAnd, dOr, dIf, dTru, truD, dBin, dCons, dNil, dTup, dLst, mkL, dCall, dAsg, dAug, dPar, dgName, dgTup, dgCons, dgNil, dDrop, R.bind, R.s, R.b, aLe, aLt, aGt, aGe, aSub, aAdd, aMul, aFdiv, aMod, aEq, aNe, aIsN, aNotN, D.isNon, aAddI, aIx, L2.atI, L2.ixN, beqi, seqA, seqL, seqR, okEq, norm, D.isSc, D.isStr, D.dat, D.dats, D.dep, D.deps, D.eqv, D.eqvs, dRaise, dNeg, bSum, bAbs, bInt, bMax2, bMin2, bLen, intsD, dSl, aSl, dP, dNoP, okMul, fm, fd, dFor, dIt, gdOf, e, forD, gdOk, t, loopK, plain, List.replicate]
end K02

namespace K02
open PySem G
/-! the end -/
def gaT : List (Str × Addr) := [("DayError", 37), ("WeekError", 49)]
def cpT : List (Str × (Addr × Addr)) := [("month_rows", (170, 166)), ("_law_plain", (228, 226)), ("law", (233, 231))]
def lamT (n : Nat) : Option LamI := match n with
  | 0 => some lam_0
  | 1 => some lam_1
  | 2 => some lam_2
  | 3 => some lam_3
  | 4 => some lam_4
  | 5 => some lam_5
  | 6 => some lam_6
  | 7 => some lam_7
  | 8 => some lam_8
  | 9 => some lam_9
  | 10 => some lam_10
  | 11 => some lam_11
  | 12 => some lam_12
  | _ => none
def gOf (K : PySem.W.Frag) : GC := ⟨K, fun x => (gaT.lookup x).getD 0, [(166, (("month_rows" : Str) ++ ".<locals>.") ++ "<genexpr>"), (226, (("_law_plain" : Str) ++ ".<locals>.") ++ "<lambda>"), (231, (("law" : Str) ++ ".<locals>.") ++ "<lambda>")], lamT, fun x => (cpT.lookup x).getD (0, 0)⟩
abbrev gX {K : PySem.W.Frag} {h : Heap} (_ : K.In h) : GC := gOf K
theorem ga_DayError (K : PySem.W.Frag) : (gOf K).ga "DayError" = 37 := by show (gaT.lookup ("DayError" : Str)).getD 0 = 37; decide +kernel
theorem ga_WeekError (K : PySem.W.Frag) : (gOf K).ga "WeekError" = 49 := by show (gaT.lookup ("WeekError" : Str)).getD 0 = 49; decide +kernel
theorem cp_month_rows (K : PySem.W.Frag) : (gOf K).cp "month_rows" = (170, 166) := by show (cpT.lookup ("month_rows" : Str)).getD (0, 0) = (170, 166); decide +kernel
theorem cp__law_plain (K : PySem.W.Frag) : (gOf K).cp "_law_plain" = (228, 226) := by show (cpT.lookup ("_law_plain" : Str)).getD (0, 0) = (228, 226); decide +kernel
theorem cp_law (K : PySem.W.Frag) : (gOf K).cp "law" = (233, 231) := by show (cpT.lookup ("law" : Str)).getD (0, 0) = (233, 231); decide +kernel
theorem law_fin {K : PySem.W.Frag} {h : Heap} {w : World} {mg : PySem.Str → Option Value} {fa : Addr} (KX : K.In h) (G₀ : h.Ns mainGlobals mg) (hmg : mg "law" = some (.ref fa)) (T : Txt (gX KX) mg) {oc kV doc pm ct : Value} {od an : Option Addr} {osl : Array (Option Value)}
    (a : PySem.W.nsIn K mainGlobals "law" = some (some (.ref 234))) (lk : K.lookup 234 = some ⟨oc, od, .func (PySem.W.fnOf "law" "law" (L2.defArgs s_law) (L2.defBody s_law) (L2.defScope s_law) .none kV doc pm an (.ref 233) ct), osl⟩) (hcd : PySem.W.codeIn K (.ref 233) "law" = true)
    (hT : ∀ p ∈ ([(170, 166), (228, 226), (233, 231)] : List (Addr × Addr)), h.get? p.2 = some { cls := .none, data := .fields #[] }) (nT : ∀ p ∈ ([(170, 166), (228, 226), (233, 231)] : List (Addr × Addr)), K.lookup p.2 = none) (C : ∀ p ∈ ([(170, 166), (228, 226), (233, 231)] : List (Addr × Addr)), PySem.W.CodeHd h p.1 p.2) :
    LamX.LawAtS PySem.Challenge.rw_clockstack_k02_weeks_and_their_days w K (L2.CX PySem.Challenge.rw_clockstack_k02_weeks_and_their_days.prog w) 16 63 "script" mg fa h := by
  refine law_end (fL := 234) (cL := 233) (s := s_law) (x := "script") (g := gX KX) (f := f_law) [(170, 166), (228, 226), (233, 231)] KX G₀ rfl hmg a lk hcd hT nT C (fun us hl => match us, hl with | [_], _ => rfl) ?hg law_true ?hF
  case hg =>
    intro p hp
    simp only [gOf, List.mem_cons, List.not_mem_nil, or_false] at hp
    rcases hp with rfl | rfl | rfl
    · exact ⟨(170, 166), by simp, rfl⟩
    · exact ⟨(228, 226), by simp, rfl⟩
    · exact ⟨(233, 231), by simp, rfl⟩
  case hF =>
    intro base KB GB TB lk hcd
    have B : Tbs (gX KX) mg base := { t_month_rows := tabB_cast (cp_month_rows _) (TB (170, 166) (by simp)), t__law_plain := tabB_cast (cp__law_plain _) (TB (228, 226) (by simp)), t_law := tabB_cast (cp_law _) (TB (233, 231) (by simp)) }
    exact ok_law T B (congrArg Prod.fst (cp_law _)) lk hcd
end K02
open PySem PySem.W PyProof.Rows
open G K02 in
set_option maxRecDepth 100000 in
set_option maxHeartbeats 0 in
theorem PySem.Challenge.cw_clockstack_k02_weeks_and_their_days_holds : PySem.Challenge.rw_clockstack_k02_weeks_and_their_days.Holds := by
  w_on; o_law
  k_head
  (case hw => w_witness2)
  k_fill
  refine G.walk_top (l := PySem.Challenge.rw_clockstack_k02_weeks_and_their_days) (n := 63) (k := 16) (x := "script") (CX := fun w => L2.CX (PySem.Challenge.rw_clockstack_k02_weeks_and_their_days).prog w) rfl (by decide) rfl ⟨rfl, by decide, by decide⟩ (fun w h Y => km_in_of Y) ?F ?C
  case C =>
    intro w H s e s' q
    obtain ⟨_, _, _, _, _, _, _, _, _, _, _, _, q⟩ := q
    exact q
  case F =>
    intro w s₀ mg mb fa h Y KX Gr hmg
    have G₀ := Gr.T.g
    have e_DayError : ExD (gX KX) mg "DayError" := by
      refine' exD_mk (C := 37) KX G₀ rfl (ga_DayError _) ?a ?b ?c ?d ?e
      (case a => k_is)
      (case b => k_exc)
      (case c => k_is)
      (case d => k_is)
      (case e => k_is)
    have e_WeekError : ExD (gX KX) mg "WeekError" := by
      refine' exD_mk (C := 49) KX G₀ rfl (ga_WeekError _) ?a ?b ?c ?d ?e
      (case a => k_is)
      (case b => k_exc)
      (case c => k_is)
      (case d => k_is)
      (case e => k_is)
    have g_MONTH_LENGTHS : Glob (gX KX) mg "MONTH_LENGTHS" c_MONTH_LENGTHS := by
      refine' glob_mk KX G₀ rfl ?a ?b
      (case a => k_is)
      (case b => kernel_rfl)
    have g_MOST_YEAR : Glob (gX KX) mg "MOST_YEAR" c_MOST_YEAR := by
      refine' glob_mk KX G₀ rfl ?a ?b
      (case a => k_is)
      (case b => kernel_rfl)
    have n_abs : mg "abs" = none := by
      refine' none_mk KX G₀ ?a
      (case a => k_is)
    have n_enumerate : mg "enumerate" = none := by
      refine' none_mk KX G₀ ?a
      (case a => k_is)
    have n_int : mg "int" = none := by
      refine' none_mk KX G₀ ?a
      (case a => k_is)
    have n_len : mg "len" = none := by
      refine' none_mk KX G₀ ?a
      (case a => k_is)
    have n_list : mg "list" = none := by
      refine' none_mk KX G₀ ?a
      (case a => k_is)
    have n_max : mg "max" = none := by
      refine' none_mk KX G₀ ?a
      (case a => k_is)
    have n_range : mg "range" = none := by
      refine' none_mk KX G₀ ?a
      (case a => k_is)
    have n_sorted : mg "sorted" = none := by
      refine' none_mk KX G₀ ?a
      (case a => k_is)
    have n_sum : mg "sum" = none := by
      refine' none_mk KX G₀ ?a
      (case a => k_is)
    have n_tuple : mg "tuple" = none := by
      refine' none_mk KX G₀ ?a
      (case a => k_is)
    have catch_WeekError : Catches (gX KX) "WeekError" [("WeekError", true)] := by
      intro p hp
      simp only [List.mem_cons, List.not_mem_nil, or_false] at hp
      rcases hp with rfl
      · show PySem.W.exmOne _ (.ref ((gOf _).ga "WeekError")) (.ref ((gOf _).ga "WeekError")) = _
        rw [ga_WeekError]
        refine' exm_one ?a ?b ?c ?d
        (case a => first | k_is | kernel_rfl)
        (case b => first | k_is | kernel_rfl)
        (case c => first | k_is | kernel_rfl)
        (case d => first | k_is | kernel_rfl)
    have told : ToldD (gX KX) mg "_law_told" "WeekError" "WeekError" := by
      refine' told_mk (st := s__law_told) (a := "what") (Ng := ["what"]) KX G₀ rfl ?a ?b ?c ?d (fun us hl => match us, hl with | [_], _ => rfl) sc__law_told rfl ?v (fun _ => rfl) ⟨_, _, _, _, _, _, _, _, _, rfl⟩ rfl (by decide) (by decide) (by decide) (by decide)
      (case a => k_is)
      (case b => k_is)
      (case c => k_is)
      (case d => k_is)
      (case v => exact .inl rfl)
    have c_told : Catches (gX KX) "WeekError" [("WeekError", true)] := by
      intro p hp
      simp only [List.mem_cons, List.not_mem_nil, or_false] at hp
      rcases hp with rfl
      · show PySem.W.exmOne _ (.ref ((gOf _).ga "WeekError")) (.ref ((gOf _).ga "WeekError")) = _
        rw [ga_WeekError]
        refine' exm_one ?a ?b ?c ?d
        (case a => first | k_is | kernel_rfl)
        (case b => first | k_is | kernel_rfl)
        (case c => first | k_is | kernel_rfl)
        (case d => first | k_is | kernel_rfl)
    have d_is_leap : DefD (gX KX) mg "is_leap" s_is_leap ["year"] := by
      refine' defD_mk KX G₀ rfl ?a ?b ?c ?d (fun us hl => match us, hl with | [_], _ => rfl)
      (case a => k_is)
      (case b => k_is)
      (case c => k_is)
      (case d => k_is)
    have d_days_in_month : DefD (gX KX) mg "days_in_month" s_days_in_month ["year", "month"] := by
      refine' defD_mk KX G₀ rfl ?a ?b ?c ?d (fun us hl => match us, hl with | [_, _], _ => rfl)
      (case a => k_is)
      (case b => k_is)
      (case c => k_is)
      (case d => k_is)
    have d_check_date : DefD (gX KX) mg "check_date" s_check_date ["date"] := by
      refine' defD_mk KX G₀ rfl ?a ?b ?c ?d (fun us hl => match us, hl with | [_], _ => rfl)
      (case a => k_is)
      (case b => k_is)
      (case c => k_is)
      (case d => k_is)
    have d_days_before_year : DefD (gX KX) mg "days_before_year" s_days_before_year ["year"] := by
      refine' defD_mk KX G₀ rfl ?a ?b ?c ?d (fun us hl => match us, hl with | [_], _ => rfl)
      (case a => k_is)
      (case b => k_is)
      (case c => k_is)
      (case d => k_is)
    have d_day_number : DefD (gX KX) mg "day_number" s_day_number ["date"] := by
      refine' defD_mk KX G₀ rfl ?a ?b ?c ?d (fun us hl => match us, hl with | [_], _ => rfl)
      (case a => k_is)
      (case b => k_is)
      (case c => k_is)
      (case d => k_is)
    have d_check_number : DefD (gX KX) mg "check_number" s_check_number ["number"] := by
      refine' defD_mk KX G₀ rfl ?a ?b ?c ?d (fun us hl => match us, hl with | [_], _ => rfl)
      (case a => k_is)
      (case b => k_is)
      (case c => k_is)
      (case d => k_is)
    have d_date_of : DefD (gX KX) mg "date_of" s_date_of ["number"] := by
      refine' defD_mk KX G₀ rfl ?a ?b ?c ?d (fun us hl => match us, hl with | [_], _ => rfl)
      (case a => k_is)
      (case b => k_is)
      (case c => k_is)
      (case d => k_is)
    have d_weekday_of : DefD (gX KX) mg "weekday_of" s_weekday_of ["number"] := by
      refine' defD_mk KX G₀ rfl ?a ?b ?c ?d (fun us hl => match us, hl with | [_], _ => rfl)
      (case a => k_is)
      (case b => k_is)
      (case c => k_is)
      (case d => k_is)
    have d_check_weekday : DefD (gX KX) mg "check_weekday" s_check_weekday ["weekday"] := by
      refine' defD_mk KX G₀ rfl ?a ?b ?c ?d (fun us hl => match us, hl with | [_], _ => rfl)
      (case a => k_is)
      (case b => k_is)
      (case c => k_is)
      (case d => k_is)
    have d_week_of : DefD (gX KX) mg "week_of" s_week_of ["date"] := by
      refine' defD_mk KX G₀ rfl ?a ?b ?c ?d (fun us hl => match us, hl with | [_], _ => rfl)
      (case a => k_is)
      (case b => k_is)
      (case c => k_is)
      (case d => k_is)
    have d_first_week : DefD (gX KX) mg "first_week" s_first_week ["year"] := by
      refine' defD_mk KX G₀ rfl ?a ?b ?c ?d (fun us hl => match us, hl with | [_], _ => rfl)
      (case a => k_is)
      (case b => k_is)
      (case c => k_is)
      (case d => k_is)
    have d_weeks_in_year : DefD (gX KX) mg "weeks_in_year" s_weeks_in_year ["year"] := by
      refine' defD_mk KX G₀ rfl ?a ?b ?c ?d (fun us hl => match us, hl with | [_], _ => rfl)
      (case a => k_is)
      (case b => k_is)
      (case c => k_is)
      (case d => k_is)
    have d_by_week : DefD (gX KX) mg "by_week" s_by_week ["year", "week", "weekday"] := by
      refine' defD_mk KX G₀ rfl ?a ?b ?c ?d (fun us hl => match us, hl with | [_, _, _], _ => rfl)
      (case a => k_is)
      (case b => k_is)
      (case c => k_is)
      (case d => k_is)
    have d_nth_weekday : DefD (gX KX) mg "nth_weekday" s_nth_weekday ["year", "month", "place", "weekday"] := by
      refine' defD_mk KX G₀ rfl ?a ?b ?c ?d (fun us hl => match us, hl with | [_, _, _, _], _ => rfl)
      (case a => k_is)
      (case b => k_is)
      (case c => k_is)
      (case d => k_is)
    have d_on_or_behind : DefD (gX KX) mg "on_or_behind" s_on_or_behind ["date", "weekday"] := by
      refine' defD_mk KX G₀ rfl ?a ?b ?c ?d (fun us hl => match us, hl with | [_, _], _ => rfl)
      (case a => k_is)
      (case b => k_is)
      (case c => k_is)
      (case d => k_is)
    have d_on_or_ahead : DefD (gX KX) mg "on_or_ahead" s_on_or_ahead ["date", "weekday"] := by
      refine' defD_mk KX G₀ rfl ?a ?b ?c ?d (fun us hl => match us, hl with | [_, _], _ => rfl)
      (case a => k_is)
      (case b => k_is)
      (case c => k_is)
      (case d => k_is)
    have d_month_rows : DefL (gX KX) mg "month_rows" s_month_rows ["year", "month", "first"] := by
      refine' defL_mk (cA := 170) KX G₀ rfl (congrArg Prod.fst (cp_month_rows _)) ?a ?b ?c ?d (fun us hl => match us, hl with | [_, _, _], _ => rfl)
      (case a => k_is)
      (case b => k_is)
      (case c => k_is)
      (case d => k_is)
    have d_count_weekdays : DefD (gX KX) mg "count_weekdays" s_count_weekdays ["one", "other", "weekdays"] := by
      refine' defD_mk KX G₀ rfl ?a ?b ?c ?d (fun us hl => match us, hl with | [_, _, _], _ => rfl)
      (case a => k_is)
      (case b => k_is)
      (case c => k_is)
      (case d => k_is)
    have d_same_calendar : DefD (gX KX) mg "same_calendar" s_same_calendar ["year", "other"] := by
      refine' defD_mk KX G₀ rfl ?a ?b ?c ?d (fun us hl => match us, hl with | [_, _], _ => rfl)
      (case a => k_is)
      (case b => k_is)
      (case c => k_is)
      (case d => k_is)
    have d_weeks_from : DefD (gX KX) mg "weeks_from" s_weeks_from ["one", "other"] := by
      refine' defD_mk KX G₀ rfl ?a ?b ?c ?d (fun us hl => match us, hl with | [_, _], _ => rfl)
      (case a => k_is)
      (case b => k_is)
      (case c => k_is)
      (case d => k_is)
    have d__law_dice : DefD (gX KX) mg "_law_dice" s__law_dice ["cell"] := by
      refine' defD_mk KX G₀ rfl ?a ?b ?c ?d (fun us hl => match us, hl with | [_], _ => rfl)
      (case a => k_is)
      (case b => k_is)
      (case c => k_is)
      (case d => k_is)
    have d__law_roll : DefD (gX KX) mg "_law_roll" s__law_roll ["dice", "many"] := by
      refine' defD_mk KX G₀ rfl ?a ?b ?c ?d (fun us hl => match us, hl with | [_, _], _ => rfl)
      (case a => k_is)
      (case b => k_is)
      (case c => k_is)
      (case d => k_is)
    have d__law_rounds : DefD (gX KX) mg "_law_rounds" s__law_rounds ["script", "most"] := by
      refine' defD_mk KX G₀ rfl ?a ?b ?c ?d (fun us hl => match us, hl with | [_, _], _ => rfl)
      (case a => k_is)
      (case b => k_is)
      (case c => k_is)
      (case d => k_is)
    have d__law_told : DefD (gX KX) mg "_law_told" s__law_told ["what"] := by
      refine' defD_mk KX G₀ rfl ?a ?b ?c ?d (fun us hl => match us, hl with | [_], _ => rfl)
      (case a => k_is)
      (case b => k_is)
      (case c => k_is)
      (case d => k_is)
    have d__law_date : DefD (gX KX) mg "_law_date" s__law_date ["dice"] := by
      refine' defD_mk KX G₀ rfl ?a ?b ?c ?d (fun us hl => match us, hl with | [_], _ => rfl)
      (case a => k_is)
      (case b => k_is)
      (case c => k_is)
      (case d => k_is)
    have d__law_week : DefD (gX KX) mg "_law_week" s__law_week ["date"] := by
      refine' defD_mk KX G₀ rfl ?a ?b ?c ?d (fun us hl => match us, hl with | [_], _ => rfl)
      (case a => k_is)
      (case b => k_is)
      (case c => k_is)
      (case d => k_is)
    have d__law_plain : DefL (gX KX) mg "_law_plain" s__law_plain [] := by
      refine' defL_mk (cA := 228) KX G₀ rfl (congrArg Prod.fst (cp__law_plain _)) ?a ?b ?c ?d (fun us hl => match us, hl with | [], _ => rfl)
      (case a => k_is)
      (case b => k_is)
      (case c => k_is)
      (case d => k_is)
    have mT_month_rows : (((gX KX).cp "month_rows").2, (("month_rows" : Str) ++ ".<locals>.") ++ "<genexpr>") ∈ (gX KX).T := by
      rw [show (gX KX).cp "month_rows" = _ from cp_month_rows _]
      simp [gOf]
    have hu_month_rows : ∀ p ∈ (gX KX).T, p.1 = ((gX KX).cp "month_rows").2 → p.2 = (("month_rows" : Str) ++ ".<locals>.") ++ "<genexpr>" := by
      rw [show (gX KX).cp "month_rows" = _ from cp_month_rows _]
      intro p hp e
      simp only [gOf, List.mem_cons, List.not_mem_nil, or_false] at hp
      rcases hp with rfl | rfl | rfl
      all_goals first | (exact absurd e (by decide)) | rfl
    have mT__law_plain : (((gX KX).cp "_law_plain").2, (("_law_plain" : Str) ++ ".<locals>.") ++ "<lambda>") ∈ (gX KX).T := by
      rw [show (gX KX).cp "_law_plain" = _ from cp__law_plain _]
      simp [gOf]
    have hu__law_plain : ∀ p ∈ (gX KX).T, p.1 = ((gX KX).cp "_law_plain").2 → p.2 = (("_law_plain" : Str) ++ ".<locals>.") ++ "<lambda>" := by
      rw [show (gX KX).cp "_law_plain" = _ from cp__law_plain _]
      intro p hp e
      simp only [gOf, List.mem_cons, List.not_mem_nil, or_false] at hp
      rcases hp with rfl | rfl | rfl
      all_goals first | (exact absurd e (by decide)) | rfl
    have mT_law : (((gX KX).cp "law").2, (("law" : Str) ++ ".<locals>.") ++ "<lambda>") ∈ (gX KX).T := by
      rw [show (gX KX).cp "law" = _ from cp_law _]
      simp [gOf]
    have hu_law : ∀ p ∈ (gX KX).T, p.1 = ((gX KX).cp "law").2 → p.2 = (("law" : Str) ++ ".<locals>.") ++ "<lambda>" := by
      rw [show (gX KX).cp "law" = _ from cp_law _]
      intro p hp e
      simp only [gOf, List.mem_cons, List.not_mem_nil, or_false] at hp
      rcases hp with rfl | rfl | rfl
      all_goals first | (exact absurd e (by decide)) | rfl
    have lam_no : ∀ n, 13 ≤ n → (gX KX).lam n = none := by
      intro n hn
      show lamT n = none
      obtain ⟨k, rfl⟩ := Nat.exists_eq_add_of_le hn
      rw [Nat.add_comm]
      rfl
    have T : Txt (gX KX) mg := { e_DayError := e_DayError, e_WeekError := e_WeekError, g_MONTH_LENGTHS := g_MONTH_LENGTHS, g_MOST_YEAR := g_MOST_YEAR, n_abs := n_abs, n_enumerate := n_enumerate, n_int := n_int, n_len := n_len, n_list := n_list, n_max := n_max, n_range := n_range, n_sorted := n_sorted, n_sum := n_sum, n_tuple := n_tuple, catch_WeekError := catch_WeekError, told := told, c_told := c_told, d_is_leap := d_is_leap, d_days_in_month := d_days_in_month, d_check_date := d_check_date, d_days_before_year := d_days_before_year, d_day_number := d_day_number, d_check_number := d_check_number, d_date_of := d_date_of, d_weekday_of := d_weekday_of, d_check_weekday := d_check_weekday, d_week_of := d_week_of, d_first_week := d_first_week, d_weeks_in_year := d_weeks_in_year, d_by_week := d_by_week, d_nth_weekday := d_nth_weekday, d_on_or_behind := d_on_or_behind, d_on_or_ahead := d_on_or_ahead, d_month_rows := d_month_rows, d_count_weekdays := d_count_weekdays, d_same_calendar := d_same_calendar, d_weeks_from := d_weeks_from, d__law_dice := d__law_dice, d__law_roll := d__law_roll, d__law_rounds := d__law_rounds, d__law_told := d__law_told, d__law_date := d__law_date, d__law_week := d__law_week, d__law_plain := d__law_plain, mT_month_rows := mT_month_rows, hu_month_rows := hu_month_rows, mT__law_plain := mT__law_plain, hu__law_plain := hu__law_plain, mT_law := mT_law, hu_law := hu_law, l_0 := rfl, l_1 := rfl, l_2 := rfl, l_3 := rfl, l_4 := rfl, l_5 := rfl, l_6 := rfl, l_7 := rfl, l_8 := rfl, l_9 := rfl, l_10 := rfl, l_11 := rfl, l_12 := rfl, lam_no := lam_no }
    have hT : ∀ p ∈ ([(170, 166), (228, 226), (233, 231)] : List (Addr × Addr)), h.get? p.2 = some { cls := .none, data := .fields #[] } := by
      intro p hp; simp only [List.mem_cons, List.not_mem_nil, or_false] at hp
      rcases hp with rfl | rfl | rfl
      · exact (G.tab_at (x := "month_rows") (c := 170) (P := 166) Gr.T KX (by kernel_rfl) (by kernel_rfl)).2
      · exact (G.tab_at (x := "_law_plain") (c := 228) (P := 226) Gr.T KX (by kernel_rfl) (by kernel_rfl)).2
      · exact (G.tab_at (x := "law") (c := 233) (P := 231) Gr.T KX (by kernel_rfl) (by kernel_rfl)).2
    have C : ∀ p ∈ ([(170, 166), (228, 226), (233, 231)] : List (Addr × Addr)), PySem.W.CodeHd h p.1 p.2 := by
      intro p hp; simp only [List.mem_cons, List.not_mem_nil, or_false] at hp
      rcases hp with rfl | rfl | rfl
      · exact codeHd_of_K (c := 170) (P := 166) KX (by kernel_rfl)
      · exact codeHd_of_K (c := 228) (P := 226) KX (by kernel_rfl)
      · exact codeHd_of_K (c := 233) (P := 231) KX (by kernel_rfl)
    refine' law_fin KX G₀ hmg T ?a ?b ?c hT ?nT C
    (case a => k_is)
    (case b => k_is)
    (case c => k_is)
    case nT =>
      intro p hp; simp only [List.mem_cons, List.not_mem_nil, or_false] at hp
      rcases hp with rfl | rfl | rfl
      all_goals kernel_rfl
