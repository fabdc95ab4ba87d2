import PyProof.Rows.All
import Wide.All
import OpenK.AllK
import Wide.FinOn
import HandS.ForMost
import HandS.ForExc
import HandS.Lambda
import HandS.TupAny
import HandS.TupLe
import HandS.Style
import HandS.Conv
import HandS.SortInts
import HandS.EndTab
import KE.KNestM
import KE.KLam
import PySem.Challenge.RW_clockstack_k01_days_and_their_dates
set_option Elab.async false
set_option linter.all false
set_option maxRecDepth 100000
set_option maxHeartbeats 16000000
/-! The data layer: what a def computes, as a plain Lean function over data (D) and a store of things that change (SO); the judgements PD, PTD, .. say that a piece of the program does so. -/
namespace G
open PySem L2

/-! ### data -/
/-- a key of a dict -/
inductive HK where | k (x : Key) | t (xs : List Key) deriving DecidableEq
inductive D where
  | non | bl (b : Bool) | int (i : Int) | str (x : Str)
  /-- a tuple; a list, a dict that nobody changes -/
  | tup (xs : List D) | lst (xs : List D) | dic (ks : List HK) (vs : List D)
  /-- a thing of the store -/
  | ref (n : Nat)
  /-- what a name of the module holds (a def, a class) -/
  | fn (x : Str)
  | lam (n : Nat)
  /-- the script -/
  | scr (ns : List Int)
/-- what may change -/
inductive SO where
  | lst (xs : List D) | dic (ks : List HK) (vs : List D) | ins (C : Str) (fs : List (Str × D))
abbrev Store := List SO
inductive R (α : Type) where
  | ok (a : α) (st : Store) | ex (c : Str) (st : Store) | bad
abbrev Env := List (Option D)
abbrev DE := Env → Store → R D
abbrev DT := Env → Store → R Bool
abbrev DA := Env → Store → R (List D)
def R.bind {α β : Type} (r : R α) (k : α → Store → R β) : R β := match r with
  | .ok a st => k a st
  | .ex c st => .ex c st
  | .bad => .bad
@[simp] theorem R.bind_ok {α β : Type} (a : α) (st : Store) (k : α → Store → R β) : (R.ok a st).bind k = k a st := rfl
@[simp] theorem R.bind_ex {α β : Type} (c : Str) (st : Store) (k : α → Store → R β) : (R.ex c st : R α).bind k = .ex c st := rfl
@[simp] theorem R.bind_bad {α β : Type} (k : α → Store → R β) : (R.bad : R α).bind k = .bad := rfl

/-! ### how data lie in the heap -/
/-- a lambda of the text that captures nothing -/
structure LamI where
  qual : Str
  params : Arguments
  body : Expr
  scope : Scope
structure GC where
  K : PySem.W.Frag
  ga : Str → Addr
  T : List (Addr × Str)
  lam : Nat → Option LamI
  /-- a def's code object and its table -/
  cp : Str → Addr × Addr
/-- the lambda stands at f, its code object at c -/
def LamO (f c : Addr) (l : LamI) (pm ctv : Value) : HO := .ext fun h => h.get? f = some (PySem.W.kla_obj "<lambda>" l.qual l.params l.body l.scope [] pm c ctv)
/-- where the things of the store lie, and lists that are being made (nobody knows of them) -/
structure Mp where
  m : List Addr
  h : List Addr
def Mp.out (μ : Mp) (a : Addr) : Prop := a ∉ μ.m ∧ a ∉ μ.h
/-- a list, a tuple of the written part -/
def KL (K : PySem.W.Frag) (a : Addr) (xs : List V) : Prop := ∃ (o : Obj) (its : Array Value) (n : Nat), K.lookup a = some o ∧ o.cls = .type "list" ∧ o.dict = none ∧ o.data = .seq its n ∧ its.size ≤ sizeLine ∧ Vals xs its.toList
def KT (K : PySem.W.Frag) (a : Addr) (xs : List V) : Prop := ∃ (o : Obj) (its : Array Value) (n : Nat), K.lookup a = some o ∧ o.cls = .type "tuple" ∧ o.data = .seq its n ∧ its.size ≤ sizeLine ∧ Vals xs its.toList
/-- how a dict with these keys stands -/
def keysK : List HK → Option (List Key)
  | [] => some []
  | .k x :: r => (keysK r).map (x :: ·)
  | .t _ :: _ => none
def keysT : List HK → Option (List (List Key))
  | [] => some []
  | .t x :: r => (keysT r).map (x :: ·)
  | .k _ :: _ => none
def DicO (ks : List HK) (vs : List V) (o : HO) : Prop :=
  (∃ kk, keysK ks = some kk ∧ o = .dK (kk.zip vs)) ∨ (∃ kk, keysT ks = some kk ∧ o = .dT (kk.zip vs))
section
variable (g : GC) (μ : Mp) (H : Hp)
mutual
def Rep : D → V → Prop
  | .non, v => v = .non
  | .bl b, v => v = .bl b
  | .int i, v => v = .int i
  | .str x, v => v = .str x
  | .tup ds, v => ∃ a vs, v = .ref a ∧ ((μ.out a ∧ Rd H a (.tup vs)) ∨ KT g.K a vs) ∧ Reps ds vs
  | .lst ds, v => ∃ a vs, v = .ref a ∧ (μ.out a ∧ H a = some (.lst vs)) ∧ Reps ds vs
  | .dic ks ds, v => ∃ a vs o, v = .ref a ∧ μ.out a ∧ Rd H a o ∧ DicO ks vs o ∧ ks.length = vs.length ∧ Reps ds vs
  | .ref n, v => ∃ a, v = .ref a ∧ μ.m[n]? = some a
  | .fn x, v => v = .ref (g.ga x)
  | .lam n, v => ∃ f c l pm ctv, v = .ref f ∧ g.lam n = some l ∧ (μ.out f ∧ Rd H f (LamO f c l pm ctv)) ∧ μ.out c ∧ Rd H c (LamX.CodeO c l.qual)
  | .scr ns, v => ∃ a, v = .ref a ∧ ((μ.out a ∧ Rd H a (.lst (ns.map V.int))) ∨ KL g.K a (ns.map V.int))
def Reps : List D → List V → Prop
  | [], vs => vs = []
  | d :: ds, vs => ∃ v vr, vs = v :: vr ∧ Rep d v ∧ Reps ds vr
end
/-- fields -/
def RepF : List (Str × D) → List (Str × V) → Prop
  | [], vs => vs = []
  | (f, d) :: ds, vs => ∃ v vr, vs = (f, v) :: vr ∧ Rep g μ H d v ∧ RepF ds vr
def RepO (a : Addr) : SO → Prop
  | .lst ds => ∃ vs, H a = some (.lst vs) ∧ Reps g μ H ds vs
  | .dic ks ds => ∃ vs o, H a = some o ∧ DicO ks vs o ∧ ks.length = vs.length ∧ Reps g μ H ds vs
  | .ins C fs => ∃ dx gs, H a = some (.ins (g.ga C) dx gs) ∧ RepF g μ H fs gs
/-- the store -/
structure RelS (st : Store) : Prop where
  len : μ.m.length = st.length
  nd : μ.m.Nodup
  hid : ∀ a ∈ μ.h, a ∉ μ.m ∧ ∃ vs, H a = some (.lst vs)
  at_ : ∀ (n : Nat) a o, μ.m[n]? = some a → st[n]? = some o → RepO g μ H a o
  tabs : LamX.Tabs g.T H
/-- the names -/
structure RelE (env : Env) (σ : L2.St) : Prop where
  len : env.length = σ.length
  at_ : ∀ (i : Nat) d, env[i]? = some (some d) → ∃ v, σ[i]? = some (some v) ∧ Rep g μ H d v
end
/-- later: what is known is known on -/
structure Lw (μ : Mp) (H : Hp) (μ' : Mp) (H' : Hp) : Prop where
  pre : ∀ (n : Nat) a, μ.m[n]? = some a → μ'.m[n]? = some a
  keep : ∀ a u, μ.out a → Rd H a u → (∀ ps, u ≠ .tbl ps) → μ'.out a ∧ Rd H' a u
  keepL : ∀ a vs, μ.out a → H a = some (.lst vs) → H' a = some (.lst vs)
/-- .. and the lists that are being made stand -/
structure Le (μ : Mp) (H : Hp) (μ' : Mp) (H' : Hp) : Prop extends Lw μ H μ' H' where
  hh : μ'.h = μ.h
  hk : ∀ a ∈ μ.h, H' a = H a
section
variable {g : GC} {μ μ' μ'' : Mp} {H H' H'' : Hp}
theorem Lw.refl : Lw μ H μ H := ⟨fun _ _ h => h, fun _ _ h1 h2 _ => ⟨h1, h2⟩, fun _ _ _ h => h⟩
theorem Lw.trans (a : Lw μ H μ' H') (b : Lw μ' H' μ'' H'') : Lw μ H μ'' H'' := ⟨fun n x h => b.pre n x (a.pre n x h), fun x u h1 h2 h3 =>
  let ⟨h4, h5⟩ := a.keep x u h1 h2 h3
  b.keep x u h4 h5 h3, fun x vs h1 h2 => b.keepL x vs (a.keep x _ h1 (.inl h2) (by intro _ z; cases z)).1 (a.keepL x vs h1 h2)⟩
theorem Le.refl : Le μ H μ H := ⟨Lw.refl, rfl, fun _ _ => rfl⟩
theorem Le.trans (a : Le μ H μ' H') (b : Le μ' H' μ'' H'') : Le μ H μ'' H'' := ⟨a.toLw.trans b.toLw, b.hh.trans a.hh, fun x hx => (b.hk x (by rw [a.hh]; exact hx)).trans (a.hk x hx)⟩
theorem DicO.noTbl {ks : List HK} {vs : List V} {o : HO} (h : DicO ks vs o) : ∀ ps, o ≠ .tbl ps := fun ps e => by
  rcases h with ⟨_, _, h⟩ | ⟨_, _, h⟩ <;> (rw [h] at e; cases e)
mutual
theorem Rep.lw (L : Lw μ H μ' H') : ∀ {d : D} {v : V}, Rep g μ H d v → Rep g μ' H' d v
  | .non, _, h => h
  | .bl _, _, h => h
  | .int _, _, h => h
  | .str _, _, h => h
  | .tup ds, v, h => by
    obtain ⟨a, vs, e, h1, h2⟩ := h
    refine ⟨a, vs, e, ?_, Reps.lw L h2⟩
    rcases h1 with ⟨n, r⟩ | k
    · exact .inl (L.keep _ _ n r (by intro _ z; cases z))
    · exact .inr k
  | .lst ds, v, h => by
    obtain ⟨a, vs, e, ⟨n, r⟩, h2⟩ := h
    exact ⟨a, vs, e, ⟨(L.keep _ _ n (.inl r) (by intro _ z; cases z)).1, L.keepL _ _ n r⟩, Reps.lw L h2⟩
  | .dic ks ds, v, h => by
    obtain ⟨a, vs, o, e, n, r, h1, h3, h2⟩ := h
    obtain ⟨n', r'⟩ := L.keep _ _ n r h1.noTbl
    exact ⟨a, vs, o, e, n', r', h1, h3, Reps.lw L h2⟩
  | .ref n, v, h => by
    obtain ⟨a, e, h⟩ := h
    exact ⟨a, e, L.pre n a h⟩
  | .fn _, _, h => h
  | .lam n, v, h => by
    obtain ⟨f, c, l, pm, ctv, e, e1, ⟨n1, h1⟩, n2, h2⟩ := h
    exact ⟨f, c, l, pm, ctv, e, e1, L.keep _ _ n1 h1 (by intro _ z; unfold LamO at z; cases z), L.keep _ _ n2 h2 (by intro _ z; unfold LamX.CodeO at z; cases z)⟩
  | .scr ns, v, h => by
    obtain ⟨a, e, h1⟩ := h
    refine ⟨a, e, ?_⟩
    rcases h1 with ⟨n, r⟩ | k
    · exact .inl (L.keep _ _ n r (by intro _ z; cases z))
    · exact .inr k
theorem Reps.lw (L : Lw μ H μ' H') : ∀ {ds : List D} {vs : List V}, Reps g μ H ds vs → Reps g μ' H' ds vs
  | [], _, h => h
  | d :: ds, vs, h => by
    obtain ⟨v, vr, e, h1, h2⟩ := h
    exact ⟨v, vr, e, Rep.lw L h1, Reps.lw L h2⟩
end
theorem Rep.le (L : Le μ H μ' H') {d : D} {v : V} (h : Rep g μ H d v) : Rep g μ' H' d v := h.lw L.toLw
theorem Reps.le (L : Le μ H μ' H') {ds : List D} {vs : List V} (h : Reps g μ H ds vs) : Reps g μ' H' ds vs := h.lw L.toLw
theorem RepF.lw (L : Lw μ H μ' H') : ∀ {ds : List (Str × D)} {vs : List (Str × V)}, RepF g μ H ds vs → RepF g μ' H' ds vs
  | [], _, h => h
  | (f, d) :: ds, vs, h => by
    obtain ⟨v, vr, e, h1, h2⟩ := h
    exact ⟨v, vr, e, Rep.lw L h1, RepF.lw L h2⟩
theorem RelE.lw (L : Lw μ H μ' H') {env : Env} {σ : L2.St} (h : RelE g μ H env σ) : RelE g μ' H' env σ := ⟨h.len, fun i d e => let ⟨v, h1, h2⟩ := h.at_ i d e; ⟨v, h1, h2.lw L⟩⟩
theorem RelE.le (L : Le μ H μ' H') {env : Env} {σ : L2.St} (h : RelE g μ H env σ) : RelE g μ' H' env σ := h.lw L.toLw
theorem RelE.set {env : Env} {σ : L2.St} (h : RelE g μ H env σ) (i : Nat) {d : D} {v : V} (r : Rep g μ H d v) : RelE g μ H (env.set i (some d)) (σ.set i (some v)) := by
  refine ⟨by simp [h.len], fun j e hj => ?_⟩
  by_cases hij : i = j
  · subst hij
    by_cases hl : i < env.length
    · rw [List.getElem?_set_self hl] at hj
      cases hj
      exact ⟨v, List.getElem?_set_self (by rw [← h.len]; exact hl), r⟩
    · rw [List.getElem?_eq_none (by simpa using hl)] at hj; cases hj
  · rw [List.getElem?_set_ne hij] at hj
    obtain ⟨w, h1, h2⟩ := h.at_ j e hj
    exact ⟨w, by rw [List.getElem?_set_ne hij]; exact h1, h2⟩
theorem Reps.len {μ : Mp} {H : Hp} : ∀ {ds : List D} {vs : List V}, Reps g μ H ds vs → ds.length = vs.length
  | [], _, h => by rw [show _ = [] from h] <;> rfl
  | d :: ds, vs, h => by
    obtain ⟨v, vr, e, _, h2⟩ := h
    rw [e, List.length_cons, List.length_cons, h2.len]
theorem Reps.get {μ : Mp} {H : Hp} : ∀ {ds : List D} {vs : List V} {i : Nat} {d : D}, Reps g μ H ds vs → ds[i]? = some d → ∃ v, vs[i]? = some v ∧ Rep g μ H d v
  | [], _, _, _, _, e => by simp at e
  | d :: ds, vs, 0, x, h, e => by
    obtain ⟨v, vr, e1, h1, _⟩ := h
    simp at e
    subst e e1
    exact ⟨v, rfl, h1⟩
  | d :: ds, vs, i + 1, x, h, e => by
    obtain ⟨v, vr, e1, _, h2⟩ := h
    obtain ⟨w, h3, h4⟩ := h2.get (i := i) (by simpa using e)
    subst e1
    exact ⟨w, by simpa using h3, h4⟩
theorem Reps.append {μ : Mp} {H : Hp} : ∀ {ds es : List D} {vs ws : List V}, Reps g μ H ds vs → Reps g μ H es ws → Reps g μ H (ds ++ es) (vs ++ ws)
  | [], _, _, _, h, q => by rw [show _ = [] from h]; exact q
  | d :: ds, _, _, _, h, q => by
    obtain ⟨v, vr, e1, h1, h2⟩ := h
    subst e1
    exact ⟨v, _, rfl, h1, h2.append q⟩
theorem Reps.get' {μ : Mp} {H : Hp} : ∀ {ds : List D} {vs : List V} {i : Nat} {v : V}, Reps g μ H ds vs → vs[i]? = some v → ∃ d, ds[i]? = some d ∧ Rep g μ H d v
  | [], _, _, _, h, e => by rw [show _ = [] from h] at e; simp at e
  | d :: ds, vs, 0, x, h, e => by
    obtain ⟨v, vr, e1, h1, _⟩ := h
    subst e1
    simp at e
    subst e
    exact ⟨d, rfl, h1⟩
  | d :: ds, vs, i + 1, x, h, e => by
    obtain ⟨v, vr, e1, _, h2⟩ := h
    subst e1
    obtain ⟨w, h3, h4⟩ := h2.get' (i := i) (by simpa using e)
    exact ⟨w, by simpa using h3, h4⟩
theorem Reps.take {μ : Mp} {H : Hp} : ∀ (n : Nat) {ds : List D} {vs : List V}, Reps g μ H ds vs → Reps g μ H (ds.take n) (vs.take n)
  | 0, _, _, _ => rfl
  | _ + 1, [], _, h => by rw [show _ = [] from h]; rfl
  | n + 1, d :: ds, _, h => by
    obtain ⟨v, vr, e1, h1, h2⟩ := h
    subst e1
    exact ⟨v, _, rfl, h1, h2.take n⟩
theorem Reps.drop {μ : Mp} {H : Hp} : ∀ (n : Nat) {ds : List D} {vs : List V}, Reps g μ H ds vs → Reps g μ H (ds.drop n) (vs.drop n)
  | 0, _, _, h => h
  | _ + 1, [], _, h => by rw [show _ = [] from h]; rfl
  | n + 1, d :: ds, _, h => by
    obtain ⟨v, vr, e1, h1, h2⟩ := h
    subst e1
    exact h2.drop n
theorem Reps.set {μ : Mp} {H : Hp} {d : D} {v : V} (r : Rep g μ H d v) : ∀ (n : Nat) {ds : List D} {vs : List V}, Reps g μ H ds vs → Reps g μ H (ds.set n d) (vs.set n v)
  | _, [], _, h => by rw [show _ = [] from h]; rfl
  | 0, e :: ds, _, h => by
    obtain ⟨w, vr, e1, h1, h2⟩ := h
    subst e1
    exact ⟨v, vr, rfl, r, h2⟩
  | n + 1, e :: ds, _, h => by
    obtain ⟨w, vr, e1, h1, h2⟩ := h
    subst e1
    exact ⟨w, _, rfl, h1, Reps.set r n h2⟩
theorem Reps.rev {μ : Mp} {H : Hp} : ∀ {ds : List D} {vs : List V}, Reps g μ H ds vs → Reps g μ H ds.reverse vs.reverse
  | [], _, h => by rw [show _ = [] from h]; rfl
  | d :: ds, _, h => by
    obtain ⟨v, vr, e1, h1, h2⟩ := h
    subst e1
    rw [List.reverse_cons, List.reverse_cons]
    exact h2.rev.append ⟨v, [], rfl, h1, rfl⟩
end
end G

namespace G
open PySem L2
section
variable {g : GC} {μ μ' : Mp} {H H' : Hp} {st : Store} {p a : Addr} {o : HO}
theorem RepO.there {so : SO} (h : RepO g μ H a so) : ∃ u, H a = some u ∧ Mut (some u) := by
  cases so with
  | lst ds => obtain ⟨vs, e, _⟩ := h; exact ⟨_, e, trivial⟩
  | dic ks ds =>
    obtain ⟨vs, o, e, d, _⟩ := h
    rcases d with ⟨_, _, d⟩ | ⟨_, _, d⟩ <;> exact ⟨_, e, by rw [d]; trivial⟩
  | ins C fs => obtain ⟨dx, gs, e, _⟩ := h; exact ⟨_, e, trivial⟩
theorem RepO.move (L : Lw μ H μ' H') (e : H' a = H a) {so : SO} (h : RepO g μ H a so) : RepO g μ' H' a so := by
  cases so with
  | lst ds => obtain ⟨vs, q, r⟩ := h; exact ⟨vs, e.trans q, r.lw L⟩
  | dic ks ds => obtain ⟨vs, o, q, d, l, r⟩ := h; exact ⟨vs, o, e.trans q, d, l, r.lw L⟩
  | ins C fs => obtain ⟨dx, gs, q, r⟩ := h; exact ⟨dx, gs, e.trans q, r.lw L⟩
theorem RelS.mem (S : RelS g μ H st) (h : a ∈ μ.m) : ∃ u, H a = some u ∧ Mut (some u) := by
  obtain ⟨n, hn⟩ := List.mem_iff_getElem?.mp h
  have hl : n < st.length := by
    rw [← S.len]
    exact (List.getElem?_eq_some_iff.mp hn).1
  exact (S.at_ n a _ hn (List.getElem?_eq_getElem hl)).there
theorem RelS.fresh (S : RelS g μ H st) (hp : H p = none) : p ∉ μ.m := fun h => by
  obtain ⟨u, e, _⟩ := S.mem h
  rw [hp] at e; cases e
theorem Rd.some {u : HO} (h : Rd H a u) : ∃ x, H a = some x := by
  rcases h with h | ⟨_, h⟩ <;> exact ⟨_, h⟩
theorem Rd.upd_ne {u : HO} (h : Rd H a u) (n : a ≠ p) : Rd (upd H p o) a u := by
  rcases h with h | ⟨x, h⟩
  · exact .inl (by rw [L2.upd_ne n]; exact h)
  · exact .inr ⟨x, by rw [L2.upd_ne n]; exact h⟩
theorem RelS.hne (S : RelS g μ H st) (hp : H p = none) (h : a ∈ μ.h) : a ≠ p := fun z => by
  obtain ⟨_, u, e⟩ := S.hid a h
  rw [z, hp] at e; cases e
theorem RelS.out (S : RelS g μ H st) (hp : H p = none) : μ.out p := ⟨S.fresh hp, fun h => S.hne hp h rfl⟩
theorem le_new (S : RelS g μ H st) (hp : H p = none) : Le μ H μ (upd H p o) := ⟨⟨fun _ _ h => h, fun a u n r _ => ⟨n, Rd.upd_ne r fun z => by
  obtain ⟨x, e⟩ := Rd.some r
  rw [z, hp] at e; cases e⟩, fun a vs _ h => by rw [L2.upd_ne (ne_of_none h hp)]; exact h⟩, rfl, fun a h => L2.upd_ne (S.hne hp h)⟩
theorem ext_new (hp : H p = none) : ∀ b u, H b = some u → upd H p o b = some u := fun b u e => by
  rw [L2.upd_ne (ne_of_none e hp)]
  exact e
theorem RelS.hid_new (S : RelS g μ H st) (hp : H p = none) : ∀ a ∈ μ.h, a ∉ μ.m ∧ ∃ vs, upd H p o a = some (.lst vs) := fun a h => by
  obtain ⟨n, u, e⟩ := S.hid a h
  exact ⟨n, u, ext_new hp a _ e⟩
theorem RelS.frz (S : RelS g μ H st) (hp : H p = none) : RelS g μ (upd H p o) st := ⟨S.len, S.nd, S.hid_new hp, fun n a so h1 h2 => by
  have r := S.at_ n a so h1 h2
  obtain ⟨u, e, _⟩ := r.there
  exact r.move (le_new S hp).toLw ((ext_new hp a u e).trans e.symm), S.tabs.ext (ext_new hp)⟩
/-- one more thing in the store -/
def Mp.add (μ : Mp) (p : Addr) : Mp := ⟨μ.m ++ [p], μ.h⟩
theorem le_new' (S : RelS g μ H st) (hp : H p = none) : Le μ H (μ.add p) (upd H p o) := by
  refine ⟨⟨fun n a h => ?_, fun a u n r t => ?_, fun a vs _ h => by rw [L2.upd_ne (ne_of_none h hp)]; exact h⟩, rfl, fun a h => L2.upd_ne (S.hne hp h)⟩
  · show (μ.m ++ [p])[n]? = some a
    rw [List.getElem?_append_left (List.getElem?_eq_some_iff.mp h).1]
    exact h
  · have hn : a ≠ p := fun z => by
      obtain ⟨x, e⟩ := Rd.some r
      rw [z, hp] at e; cases e
    exact ⟨⟨by simp [Mp.add, n.1, hn], n.2⟩, Rd.upd_ne r hn⟩
theorem RelS.new (S : RelS g μ H st) (hp : H p = none) {so : SO} (r : RepO g (μ.add p) (upd H p o) p so) : RelS g (μ.add p) (upd H p o) (st ++ [so]) := by
  refine ⟨by simp [Mp.add, S.len], ?_, fun a h => ?_, fun n a s h1 h2 => ?_, S.tabs.ext (ext_new hp)⟩
  · show (μ.m ++ [p]).Nodup
    rw [List.nodup_append]
    exact ⟨S.nd, by simp, fun x hx y hy z => S.fresh hp (by rw [List.mem_singleton.mp hy] at z; rw [← z]; exact hx)⟩
  · obtain ⟨n, u, e⟩ := S.hid a h
    exact ⟨by simp [Mp.add, n, S.hne hp h], u, ext_new hp a _ e⟩
  · have h1 : (μ.m ++ [p])[n]? = some a := h1
    by_cases hn : n < μ.m.length
    · rw [List.getElem?_append_left hn] at h1
      rw [List.getElem?_append_left (by rw [← S.len]; exact hn)] at h2
      have q := S.at_ n a s h1 h2
      obtain ⟨u, e, _⟩ := q.there
      exact q.move (le_new' S hp).toLw ((ext_new hp a u e).trans e.symm)
    · have hn2 : n = μ.m.length := by
        have := (List.getElem?_eq_some_iff.mp h1).1
        simp at this
        omega
      subst hn2
      simp at h1
      rw [S.len] at h2
      simp at h2
      subst h1 h2
      exact r
/-- a thing of the store is written -/
theorem le_set (S : RelS g μ H st) (h : a ∈ μ.m) : Le μ H μ (upd H a o) := ⟨⟨fun _ _ h => h, fun b u n r _ => ⟨n, Rd.upd_ne r fun z => n.1 (by rw [z]; exact h)⟩, fun b vs n e => (L2.upd_ne fun z => n.1 (by rw [z]; exact h)).trans e⟩, rfl, fun b hb => L2.upd_ne fun z => (S.hid b hb).1 (by rw [z]; exact h)⟩
theorem nodup_inj {α : Type} : ∀ {l : List α} {n m : Nat} {a : α}, l.Nodup → l[n]? = some a → l[m]? = some a → n = m
  | [], _, _, _, _, h, _ => by simp at h
  | x :: l, 0, 0, _, _, _, _ => rfl
  | x :: l, 0, m + 1, a, nd, h, h' => by
    simp at h h'
    subst h
    exact absurd (List.mem_of_getElem? h') (List.nodup_cons.mp nd).1
  | x :: l, n + 1, 0, a, nd, h, h' => by
    simp at h h'
    subst h'
    exact absurd (List.mem_of_getElem? h) (List.nodup_cons.mp nd).1
  | x :: l, n + 1, m + 1, a, nd, h, h' => congrArg (· + 1) (nodup_inj (List.nodup_cons.mp nd).2 (by simpa using h) (by simpa using h'))
theorem RelS.set (S : RelS g μ H st) {n : Nat} (h : μ.m[n]? = some a) {so : SO} (r : RepO g μ (upd H a o) a so) : RelS g μ (upd H a o) (st.set n so) := by
  have hm : a ∈ μ.m := List.mem_of_getElem? h
  obtain ⟨w, ew, hw⟩ := S.mem hm
  refine ⟨by simp [S.len], S.nd, fun b hb => ?_, fun m b s h1 h2 => ?_, ?_⟩
  · obtain ⟨n, u, e⟩ := S.hid b hb
    exact ⟨n, u, (L2.upd_ne fun z => n (by rw [z]; exact hm)).trans e⟩
  · by_cases hmn : n = m
    · subst hmn
      rw [h] at h1
      cases h1
      have hl : n < st.length := by
        rw [← S.len]
        exact (List.getElem?_eq_some_iff.mp h).1
      rw [List.getElem?_set_self hl] at h2
      cases h2
      exact r
    · rw [List.getElem?_set_ne hmn] at h2
      refine (S.at_ m b s h1 h2).move (le_set S hm).toLw (L2.upd_ne fun z => hmn ?_)
      subst z
      exact nodup_inj S.nd h h1
  · intro q hq
    obtain ⟨ps, h1, h2, h3⟩ := S.tabs q hq
    have n1 : q.1 ≠ a := fun z => by
      rw [z, ew] at h1
      cases h1
      exact hw
    refine ⟨ps, by rw [L2.upd_ne n1]; exact h1, h2, fun pos cv hc => ?_⟩
    obtain ⟨c, e1, e2⟩ := h3 pos cv hc
    refine ⟨c, e1, (L2.upd_ne ?_).trans e2⟩
    intro z
    rw [z, ew] at e2
    cases h9 : w with
    | ext φ =>
      -- an ext is no thing of the store
      rw [h9] at ew
      obtain ⟨m, hm2⟩ := List.mem_iff_getElem?.mp hm
      have hl : m < st.length := by
        rw [← S.len]
        exact (List.getElem?_eq_some_iff.mp hm2).1
      have q3 := S.at_ m a _ hm2 (List.getElem?_eq_getElem hl)
      cases h10 : st[m] with
      | lst ds => rw [h10] at q3; obtain ⟨vs, q4, _⟩ := q3; rw [ew] at q4; cases q4
      | dic ks ds =>
        rw [h10] at q3
        obtain ⟨vs, o4, q4, d4, _⟩ := q3
        rw [ew] at q4
        cases q4
        rcases d4 with ⟨_, _, d4⟩ | ⟨_, _, d4⟩ <;> cases d4
      | ins C fs => rw [h10] at q3; obtain ⟨dx, gs, q4, _⟩ := q3; rw [ew] at q4; cases q4
    | _ =>
      rw [h9] at e2
      unfold LamX.CodeO at e2
      cases e2
end

/-! ### what is wanted -/
def Post {α : Type} (g : GC) (W : WX) (σ : L2.St) (μ : Mp) (H : Hp) (r : R α) (P : Mp → Hp → α → Store → Prop) : Prop := match r with
  | .ok a st => ∀ μ' H', Le μ H μ' H' → RelS g μ' H' st → P μ' H' a st
  | .ex c st => ∀ μ' H', Le μ H μ' H' → RelS g μ' H' st → W (.ref (g.ga c)) none σ H'
  | .bad => False
section
variable {α β : Type} {g : GC} {W : WX} {σ : L2.St} {μ μ1 : Mp} {H H1 : Hp} {st : Store} {r : R α} {P P' : Mp → Hp → α → Store → Prop}
theorem Post.le (L : Le μ H μ1 H1) (h : Post g W σ μ H r P) : Post g W σ μ1 H1 r P := by
  cases r with
  | ok a st => exact fun μ' H' L' S => h μ' H' (L.trans L') S
  | ex c st => exact fun μ' H' L' S => h μ' H' (L.trans L') S
  | bad => exact h
theorem Post.imp (h : Post g W σ μ H r P) (hi : ∀ μ' H' a st, P μ' H' a st → P' μ' H' a st) : Post g W σ μ H r P' := by
  cases r with
  | ok a st => exact fun μ' H' L' S => hi _ _ _ _ (h μ' H' L' S)
  | ex c st => exact h
  | bad => exact h
theorem Post.here {a : α} (h : Post g W σ μ H (.ok a st) P) (S : RelS g μ H st) : P μ H a st := h μ H Le.refl S
end
abbrev VP (g : GC) (Q : VK) : Mp → Hp → D → Store → Prop := fun μ' H' d _ => ∀ v, Rep g μ' H' d v → Q v H'
def tDE (g : GC) (W : WX) (f : DE) : TE := fun σ H Q => ∃ μ env st, RelS g μ H st ∧ RelE g μ H env σ ∧ Post g W σ μ H (f env st) (VP g Q)
def tDT (g : GC) (W : WX) (f : DT) : TT := fun σ H Q => ∃ μ env st, RelS g μ H st ∧ RelE g μ H env σ ∧ Post g W σ μ H (f env st) (fun _ H' b _ => Q b H')
def tDA (g : GC) (W : WX) (f : DA) : TA := fun σ H Q => ∃ μ env st, RelS g μ H st ∧ RelE g μ H env σ ∧ Post g W σ μ H (f env st) (fun μ' H' ds _ => ∀ vs, Reps g μ' H' ds vs → Q vs H')
/-- an expression, a test, an argument list that does what f does -/
def PD (X : Cx) (g : GC) (W : WX) (e : Expr) (f : DE) : Prop := PE X e (tDE g W f)
def PTD (X : Cx) (g : GC) (W : WX) (e : Expr) (f : DT) : Prop := PT X e (tDT g W f)
def PAD (X : Cx) (g : GC) (W : WX) (es : List Expr) (f : DA) : Prop := PA X es (tDA g W f)
theorem PE.imp {X : Cx} {e : Expr} {t t' : TE} (h : PE X e t) (hi : ∀ σ H Q, t' σ H Q → t σ H Q) : PE X e t' := ⟨fun pins s σ H Q I q => h.run pins s σ H Q I (hi _ _ _ q)⟩
theorem PT.imp {X : Cx} {e : Expr} {t t' : TT} (h : PT X e t) (hi : ∀ σ H Q, t' σ H Q → t σ H Q) : PT X e t' := ⟨fun pins s σ H Q I q => h.run pins s σ H Q I (hi _ _ _ q)⟩
theorem PW.imp {X : Cx} {e : Expr} {t t' : TT} (h : PW X e t) (hi : ∀ σ H Q, t' σ H Q → t σ H Q) : PW X e t' := ⟨fun wh pins s σ H Q I q => h.run wh pins s σ H Q I (hi _ _ _ q)⟩
theorem PA.imp {X : Cx} {e : List Expr} {t t' : TA} (h : PA X e t) (hi : ∀ σ H Q, t' σ H Q → t σ H Q) : PA X e t' := ⟨fun pos pins s σ H Q I q => h.run pos pins s σ H Q I (hi _ _ _ q)⟩
theorem PS.imp {X : Cx} {e : Stmt} {t t' : TS} (h : PS X e t) (hi : ∀ D σ H, t' D σ H → t D σ H) : PS X e t' := ⟨fun pins s σ H D I q => h.run pins s σ H D I (hi _ _ _ q)⟩
theorem PSs.imp {X : Cx} {e : List Stmt} {t t' : TS} (h : PSs X e t) (hi : ∀ D σ H, t' D σ H → t D σ H) : PSs X e t' := ⟨fun pins s σ H D I q => h.run pins s σ H D I (hi _ _ _ q)⟩
section
variable {β : Type} {g : GC} {W : WX} {σ : L2.St} {μ : Mp} {H : Hp} {env : Env} {st : Store} {P : Mp → Hp → β → Store → Prop}
theorem bindE {f : DE} {k : D → Store → R β} (S : RelS g μ H st) (E : RelE g μ H env σ) (h : Post g W σ μ H ((f env st).bind k) P) {Rest : VK}
    (hk : ∀ μ1 H1 d st1 v, Le μ H μ1 H1 → RelS g μ1 H1 st1 → RelE g μ1 H1 env σ → Rep g μ1 H1 d v → Post g W σ μ1 H1 (k d st1) P → Rest v H1) : tDE g W f σ H Rest := by
  refine ⟨μ, env, st, S, E, ?_⟩
  generalize f env st = r at h ⊢
  cases r with
  | ok d st1 => exact fun μ1 H1 L S1 v rv => hk μ1 H1 d st1 v L S1 (E.le L) rv (Post.le L h)
  | ex c st1 => exact h
  | bad => exact h
theorem bindT {f : DT} {k : Bool → Store → R β} (S : RelS g μ H st) (E : RelE g μ H env σ) (h : Post g W σ μ H ((f env st).bind k) P) {Rest : Bool → Hp → Prop}
    (hk : ∀ μ1 H1 b st1, Le μ H μ1 H1 → RelS g μ1 H1 st1 → RelE g μ1 H1 env σ → Post g W σ μ1 H1 (k b st1) P → Rest b H1) : tDT g W f σ H Rest := by
  refine ⟨μ, env, st, S, E, ?_⟩
  generalize f env st = r at h ⊢
  cases r with
  | ok d st1 => exact fun μ1 H1 L S1 => hk μ1 H1 d st1 L S1 (E.le L) (Post.le L h)
  | ex c st1 => exact h
  | bad => exact h
theorem bindA {f : DA} {k : List D → Store → R β} (S : RelS g μ H st) (E : RelE g μ H env σ) (h : Post g W σ μ H ((f env st).bind k) P) {Rest : List V → Hp → Prop}
    (hk : ∀ μ1 H1 ds st1 vs, Le μ H μ1 H1 → RelS g μ1 H1 st1 → RelE g μ1 H1 env σ → Reps g μ1 H1 ds vs → Post g W σ μ1 H1 (k ds st1) P → Rest vs H1) : tDA g W f σ H Rest := by
  refine ⟨μ, env, st, S, E, ?_⟩
  generalize f env st = r at h ⊢
  cases r with
  | ok d st1 => exact fun μ1 H1 L S1 vs rv => hk μ1 H1 d st1 vs L S1 (E.le L) rv (Post.le L h)
  | ex c st1 => exact h
  | bad => exact h
end

/-! ### new lists, tuples -/
/-- a new list: of the store, or one that nobody changes -/
def mkL (b : Bool) (ds : List D) (st : Store) : R D := if b = true then .ok (.ref st.length) (st ++ [.lst ds]) else .ok (.lst ds) st
section
variable {g : GC} {W : WX} {σ : L2.St} {μ : Mp} {H : Hp} {st : Store} {Q : VK} {p : Addr}
theorem mkL_ok {b : Bool} {ds : List D} {vs : List V} (S : RelS g μ H st) (r : Reps g μ H ds vs) (h : Post g W σ μ H (mkL b ds st) (VP g Q)) (hp : H p = none) : Q (.ref p) (upd H p (.lst vs)) := by
  unfold mkL at h
  cases b with
  | true =>
    rw [if_pos rfl] at h
    refine h (μ.add p) _ (le_new' S hp) (S.new hp ⟨vs, upd_same, r.le (le_new' S hp)⟩) _ ⟨p, rfl, ?_⟩
    show (μ.m ++ [p])[st.length]? = some p
    rw [← S.len]
    simp
  | false =>
    rw [if_neg Bool.false_ne_true] at h
    exact h μ _ (le_new S hp) (S.frz hp) _ ⟨p, vs, rfl, ⟨S.out hp, upd_same⟩, r.le (le_new S hp)⟩
theorem mkT_ok {ds : List D} {vs : List V} (S : RelS g μ H st) (r : Reps g μ H ds vs) (h : Post g W σ μ H (.ok (.tup ds) st) (VP g Q)) (hp : H p = none) : Q (.ref p) (upd H p (.tup vs)) :=
  h μ _ (le_new S hp) (S.frz hp) _ ⟨p, vs, rfl, .inl ⟨S.out hp, .inl upd_same⟩, r.le (le_new S hp)⟩
end

/-! ### what stands around a piece of the program -/
structure Ok (X : Cx) (g : GC) (W : WX) (k : Nat) : Prop where
  hK : X.K = g.K
  tk : Takes X W
  hp : PassesOwn (model X.prog X.w) X.A X.env X.xe
  calm : X.calm = true
  nd : X.N.Nodup
  room : Room k X.A
theorem Ok.hu {X : Cx} {g : GC} {W : WX} {k : Nat} (O : Ok X g W k) : X.A.units + 64 < cLine := O.room.units

/-! ### names and constants -/
section
variable {X : Cx} {g : GC} {W : WX} {k : Nat} {pos : Pos}
def dVar (i : Nat) : DE := fun env st => match env[i]? with
  | some (some d) => .ok d st
  | _ => .bad
def dC (d : D) : DE := fun _ st => .ok d st
theorem pd_var (i : Nat) {x : Str} (hN : X.N[i]? = some x := by rfl) (hv : Vis X.env.scope x := by first | exact Or.inl rfl | exact Or.inr (Or.inl rfl) | exact Or.inr (Or.inr rfl)) (hd : (x == ("__debug__" : Str)) = false := by decide)
    (hcd : (x == ("__classdict__" : Str)) = false := by decide) : PD X g W (.Name x pos) (dVar i) := PE.imp (pe_var hN hv hd hcd) fun σ H Q ⟨μ, env, st, S, E, h⟩ => by
  unfold dVar at h
  split at h
  · rename_i d e
    obtain ⟨v, h1, h2⟩ := E.at_ i d e
    exact ⟨v, h1, h.here S v h2⟩
  · exact h.elim
theorem pd_int {i j} : PD X g W (.Constant (.int i) j pos) (dC (.int i)) := PE.imp pe_int fun σ H Q ⟨μ, env, st, S, E, h⟩ => h.here S _ rfl
theorem pd_bl {b j} : PD X g W (.Constant (.bool b) j pos) (dC (.bl b)) := PE.imp pe_bl fun σ H Q ⟨μ, env, st, S, E, h⟩ => h.here S _ rfl
theorem pd_non {j} : PD X g W (.Constant .none j pos) (dC .non) := PE.imp pe_non fun σ H Q ⟨μ, env, st, S, E, h⟩ => h.here S _ rfl
theorem pd_str {x j} : PD X g W (.Constant (.str x) j pos) (dC (.str x)) := PE.imp pe_str fun σ H Q ⟨μ, env, st, S, E, h⟩ => h.here S _ rfl
/-- what a constant of the module is -/
structure Glob (g : GC) (mg : Str → Option Value) (x : Str) (d : D) : Prop where
  is : ∃ u v, mg x = some u ∧ RelV v u ∧ ∀ μ H, Rep g μ H d v
theorem pd_glob {x : Str} {d : D} (G₀ : Glob g X.mg x d) (hg : Gl X x := by rfl) (hd : (x == ("__debug__" : Str)) = false := by decide) : PD X g W (.Name x pos) (dC d) := by
  obtain ⟨u, v, h1, h2, h3⟩ := G₀.is
  exact PE.imp (pe_glob hg h1 h2 hd) fun σ H Q ⟨μ, env, st, S, E, h⟩ => h.here S _ (h3 _ _)

/-! ### operators -/
def RV (g : GC) (W : WX) (r : R2) (h : D → D → Store → R D) : Prop := ∀ (σ : L2.St) (μ : Mp) (H : Hp) (st : Store) (x y : D) (v u : V) (Q : VK), RelS g μ H st → Rep g μ H x v → Rep g μ H y u → Post g W σ μ H (h x y st) (VP g Q) → r v u H Q
def OpD (X : Cx) (g : GC) (W : WX) (f : Value → Value → Sem Value) (h : D → D → Store → R D) : Prop := ∃ r, OpR X f r ∧ RV g W r h
def dBin (h : D → D → Store → R D) (fa fb : DE) : DE := fun env st => (fa env st).bind fun x st => (fb env st).bind fun y st => h x y st
theorem dBin_tOp {r : R2} {h : D → D → Store → R D} {fa fb : DE} (hr : RV g W r h) {σ : L2.St} {H : Hp} {Q : VK} (q : tDE g W (dBin h fa fb) σ H Q) : tOp r (tDE g W fa) (tDE g W fb) σ H Q := by
  obtain ⟨μ, env, st, S, E, h⟩ := q
  refine bindE S E h fun μ1 H1 d st1 v L1 S1 E1 r1 h1 => ?_
  refine bindE S1 E1 h1 fun μ2 H2 d2 st2 v2 L2 S2 E2 r2 h2 => ?_
  exact hr σ μ2 H2 st2 d d2 v v2 Q S2 (r1.le L2) r2 h2
theorem pd_bin {a b : Expr} {fa fb : DE} {op : Operator} {h : D → D → Store → R D} (ho : OpD X g W (binaryOp op) h) (ha : PD X g W a fa) (hb : PD X g W b fb) : PD X g W (.BinOp a op b pos) (dBin h fa fb) := by
  obtain ⟨r, h1, h2⟩ := ho
  exact PE.imp (pe_op h1 ha hb) fun σ H Q q => dBin_tOp h2 q
theorem pd_cmp {a b : Expr} {fa fb : DE} {op : CmpOp} {h : D → D → Store → R D} (ho : OpD X g W (compareOp op) h) (ha : PD X g W a fa) (hb : PD X g W b fb) (hm : behindInMarks op b = false := by first | exact nomark _ | rfl) : PD X g W (.Compare a [op] [b] pos) (dBin h fa fb) := by
  obtain ⟨r, h1, h2⟩ := ho
  exact PE.imp (pe_cmpR h1 ha hb hm) fun σ H Q q => dBin_tOp h2 q
/-- a value that is True or False, as a test -/
def dB (f : DE) : DT := fun env st => (f env st).bind fun d st => match d with
  | .bl b => .ok b st
  | _ => .bad
theorem dB_ok {f : DE} {σ : L2.St} {H : Hp} {Q : Bool → Hp → Prop} (q : tDT g W (dB f) σ H Q) : tDE g W f σ H fun x H' => ∃ k, x = .bl k ∧ Q k H' := by
  obtain ⟨μ, env, st, S, E, h⟩ := q
  refine bindE S E h fun μ1 H1 d st1 v L1 S1 E1 r1 h1 => ?_
  cases d with
  | bl b => exact ⟨b, r1, h1.here S1⟩
  | _ => exact h1.elim
theorem pt_cmp {a b : Expr} {fa fb : DE} {op : CmpOp} {h : D → D → Store → R D} (ho : OpD X g W (compareOp op) h) (ha : PD X g W a fa) (hb : PD X g W b fb) (hm : behindInMarks op b = false := by first | exact nomark _ | rfl) : PTD X g W (.Compare a [op] [b] pos) (dB (dBin h fa fb)) := by
  obtain ⟨r, h1, h2⟩ := ho
  exact PT.imp (pt_cmpR h1 ha hb hm) fun σ H Q q => dBin_tOp h2 (dB_ok q)
/-- a < b < c -/
def dChain (h h' : D → D → Store → R D) (fa fb fc : DE) : DE := fun env st => (fa env st).bind fun x st => (fb env st).bind fun y st => (h x y st).bind fun z st => match z with
  | .bl true => (fc env st).bind fun w st => h' y w st
  | .bl false => .ok (.bl false) st
  | _ => .bad
theorem dChain_ok {r r' : R2} {h h' : D → D → Store → R D} {fa fb fc : DE} (hr : RV g W r h) (hr' : RV g W r' h') {σ : L2.St} {H : Hp} {Q : VK} (q : tDE g W (dChain h h' fa fb fc) σ H Q) : tChain r r' (tDE g W fa) (tDE g W fb) (tDE g W fc) σ H Q := by
  obtain ⟨μ, env, st, S, E, h0⟩ := q
  refine bindE S E h0 fun μ1 H1 d st1 v L1 S1 E1 r1 h1 => ?_
  refine bindE S1 E1 h1 fun μ2 H2 d2 st2 v2 L2 S2 E2 r2 h2 => ?_
  refine hr σ μ2 H2 st2 d d2 v v2 _ S2 (r1.le L2) r2 ?_
  generalize h d d2 st2 = rr at h2 ⊢
  cases rr with
  | ex c st => exact h2
  | bad => exact h2
  | ok z st3 =>
    intro μ3 H3 L3 S3 w rw_
    have h3 := Post.le L3 h2
    cases z with
    | bl b =>
      refine ⟨b, rw_, ?_⟩
      cases b with
      | true =>
        rw [if_pos rfl]
        refine bindE S3 (E2.le L3) h3 fun μ4 H4 d4 st4 v4 L4 S4 E4 r4 h4 => ?_
        exact hr' σ μ4 H4 st4 d2 d4 v2 v4 Q S4 (r2.le (L3.trans L4)) r4 h4
      | false =>
        rw [if_neg Bool.false_ne_true]
        exact (show Post g W σ μ3 H3 (.ok (.bl false) st3) (VP g Q) from h3).here S3 _ rfl
    | _ => exact h3.elim
theorem pd_chain {a b c : Expr} {fa fb fc : DE} {op op' : CmpOp} {h h' : D → D → Store → R D} (ho : OpD X g W (compareOp op) h) (ho' : OpD X g W (compareOp op') h') (ha : PD X g W a fa) (hb : PD X g W b fb) (hc : PD X g W c fc)
    (hm : lastMarks [op, op'] [b, c] = false := by with_unfolding_all rfl) : PD X g W (.Compare a [op, op'] [b, c] pos) (dChain h h' fa fb fc) := by
  obtain ⟨r, h1, h2⟩ := ho
  obtain ⟨r', h1', h2'⟩ := ho'
  exact PE.imp (pe_chain h1 h1' ha hb hc hm) fun σ H Q q => dChain_ok h2 h2' q
end
end G

namespace G
open PySem L2
/-! ### what a list, a tuple holds -/
def lstAt (st : Store) (n : Nat) : Option (List D) := match st[n]? with
  | some (.lst ds) => some ds
  | _ => none
theorem lstAt_eq {st : Store} {n : Nat} {ds : List D} (h : lstAt st n = some ds) : st[n]? = some (.lst ds) := by
  unfold lstAt at h
  split at h
  · rename_i e
    cases h
    exact e
  · cases h
def seqL (st : Store) : D → Option (List D)
  | .lst ds => some ds
  | .ref n => lstAt st n
  | .scr ns => some (ns.map .int)
  | _ => none
def seqT : D → Option (List D)
  | .tup ds => some ds
  | _ => none
def seqA (st : Store) : D → Option (List D)
  | .tup ds => some ds
  | d => seqL st d
/-- .. that is no list of the written part -/
def seqR (st : Store) : D → Option (List D)
  | .lst ds => some ds
  | .ref n => lstAt st n
  | _ => none
def intsD : List D → Option (List Int)
  | [] => some []
  | .int i :: r => (intsD r).map (i :: ·)
  | _ :: _ => none
@[simp] theorem ints_map : ∀ ns : List Int, intsD (ns.map .int) = some ns
  | [] => rfl
  | n :: ns => by rw [List.map_cons, intsD, ints_map ns]; rfl
section
variable {g : GC} {μ : Mp} {H : Hp} {st : Store} {d : D} {ds : List D} {v : V}
theorem reps_ints : ∀ (ns : List Int), Reps g μ H (ns.map .int) (ns.map V.int)
  | [] => rfl
  | n :: ns => ⟨.int n, _, rfl, rfl, reps_ints ns⟩
theorem ints_ok : ∀ {ds : List D} {ns : List Int} {vs : List V}, intsD ds = some ns → Reps g μ H ds vs → vs = ns.map V.int
  | [], ns, vs, e, r => by cases e; exact r
  | d :: ds, ns, vs, e, r => by
    obtain ⟨v, vr, e1, r1, r2⟩ := r
    cases d with
    | int i =>
      have e : (intsD ds).map (i :: ·) = some ns := e
      cases q : intsD ds with
      | none => rw [q] at e; cases e
      | some ms =>
        rw [q] at e
        cases e
        rw [e1, show v = V.int i from r1, ints_ok q r2] <;> rfl
    | _ => cases e
theorem rd_l {a : Addr} {vs : List V} (h : Rd H a (.lst vs)) : SqL g.K H a vs := .inl h
theorem seqL_ok (S : RelS g μ H st) (r : Rep g μ H d v) (e : seqL st d = some ds) : ∃ a vs, v = .ref a ∧ SqL g.K H a vs ∧ Reps g μ H ds vs := by
  cases d with
  | lst xs =>
    cases e
    obtain ⟨a, vs, e, ⟨_, h⟩, r⟩ := r
    exact ⟨a, vs, e, .inl (.inl h), r⟩
  | ref n =>
    obtain ⟨a, e1, h⟩ := r
    obtain ⟨vs, h1, h2⟩ := S.at_ n a _ h (lstAt_eq e)
    exact ⟨a, vs, e1, .inl (.inl h1), h2⟩
  | scr ns =>
    cases e
    obtain ⟨a, e, h⟩ := r
    refine ⟨a, _, e, ?_, reps_ints ns⟩
    rcases h with ⟨_, h⟩ | h
    · exact .inl h
    · exact .inr h
  | _ => cases e
theorem seqR_ok (S : RelS g μ H st) (r : Rep g μ H d v) (e : seqR st d = some ds) : ∃ a vs, v = .ref a ∧ H a = some (.lst vs) ∧ Reps g μ H ds vs := by
  cases d with
  | lst xs =>
    cases e
    obtain ⟨a, vs, e, ⟨_, h⟩, r⟩ := r
    exact ⟨a, vs, e, h, r⟩
  | ref n =>
    obtain ⟨a, e1, h⟩ := r
    obtain ⟨vs, h1, h2⟩ := S.at_ n a _ h (lstAt_eq e)
    exact ⟨a, vs, e1, h1, h2⟩
  | _ => cases e
theorem seqT_ok (r : Rep g μ H d v) (e : seqT d = some ds) : ∃ a vs, v = .ref a ∧ SqT g.K H a vs ∧ Reps g μ H ds vs := by
  cases d with
  | tup xs =>
    cases e
    obtain ⟨a, vs, e, h, r⟩ := r
    refine ⟨a, vs, e, ?_, r⟩
    rcases h with ⟨_, h⟩ | h
    · exact .inl h
    · exact .inr h
  | _ => cases e
theorem seqA_ok (S : RelS g μ H st) (r : Rep g μ H d v) (e : seqA st d = some ds) : ∃ a vs, v = .ref a ∧ (SqL g.K H a vs ∨ SqT g.K H a vs) ∧ Reps g μ H ds vs := by
  cases d with
  | tup xs =>
    obtain ⟨a, vs, h1, h2, h3⟩ := seqT_ok (d := .tup xs) r e
    exact ⟨a, vs, h1, .inr h2, h3⟩
  | _ =>
    obtain ⟨a, vs, h1, h2, h3⟩ := seqL_ok S r e
    exact ⟨a, vs, h1, .inl h2, h3⟩
end

theorem sizeLine_le {n : Nat} (h : n ≤ 16777216) : n ≤ sizeLine := by
  rw [sizeLine_eq]
  exact h

/-! ### the operators, on data -/
def aAdd (b : Bool) : D → D → Store → R D
  | .int i, .int j, st => .ok (.int (i + j)) st
  | .str x, .str y, st => if x.length + y.length ≤ 16777216 then .ok (.str (x ++ y)) st else .bad
  | .tup xs, .tup ys, st => if xs.length + ys.length ≤ 16777216 then .ok (.tup (xs ++ ys)) st else .bad
  | x, y, st => match seqR st x, seqR st y with
    | some xs, some ys => if xs.length + ys.length ≤ 16777216 then mkL b (xs ++ ys) st else .bad
    | _, _ => .bad
def aSub : D → D → Store → R D
  | .int i, .int j, st => .ok (.int (i - j)) st
  | _, _, _ => .bad
def okMul (i j : Int) : Bool := decide (-18446744073709551616 < i ∧ i < 18446744073709551616) || decide (-18446744073709551616 < j ∧ j < 18446744073709551616)
def aMul (b : Bool) : D → D → Store → R D
  | .int i, .int j, st => if okMul i j = true then .ok (.int (i * j)) st else .bad
  | .lst xs, .int k, st => if decide (-9223372036854775808 ≤ k) && decide (k < 9223372036854775808) && decide (xs.length * k.toNat ≤ 16777216) then mkL b (List.replicate k.toNat xs).flatten st else .bad
  | _, _, _ => .bad
def aFdiv : D → D → Store → R D
  | .int i, .int j, st => if j ≠ 0 ∧ j.natAbs < 1073741824 then .ok (.int (i.fdiv j)) st else .bad
  | _, _, _ => .bad
def aMod : D → D → Store → R D
  | .int i, .int j, st => if j ≠ 0 then .ok (.int (i.fmod j)) st else .bad
  | _, _, _ => .bad
def aPow : D → D → Store → R D
  | .int i, .int j, st => if 0 ≤ j ∧ j ≤ 1000000 ∧ i.natAbs < 18446744073709551616 then .ok (.int (i ^ j.toNat)) st else .bad
  | _, _, _ => .bad
def aLt : D → D → Store → R D
  | .int i, .int j, st => .ok (.bl (decide (i < j))) st
  | .tup xs, .tup ys, st => match intsD xs, intsD ys with
    | some ns, some ms => .ok (.bl (HT.lexLt ns ms)) st
    | _, _ => .bad
  | .str x, .str y, st => .ok (.bl (decide (x.cps.toList < y.cps.toList))) st
  | _, _, _ => .bad
def aLe : D → D → Store → R D
  | .int i, .int j, st => .ok (.bl (decide (i ≤ j))) st
  | _, _, _ => .bad
def aGt : D → D → Store → R D
  | .int i, .int j, st => .ok (.bl (decide (j < i))) st
  | _, _, _ => .bad
def aGe : D → D → Store → R D
  | .int i, .int j, st => .ok (.bl (decide (j ≤ i))) st
  | _, _, _ => .bad
/-- is None -/
def D.isNon : D → Bool
  | .non => true
  | _ => false
def aIsN : D → D → Store → R D
  | x, .non, st => .ok (.bl x.isNon) st
  | _, _, _ => .bad
def aNotN : D → D → Store → R D
  | x, .non, st => .ok (.bl (!x.isNon)) st
  | _, _, _ => .bad
section
variable {g : GC} {μ : Mp} {H : Hp}
theorem isNon_ok {d : D} {v : V} (r : Rep g μ H d v) : decide (v = .non) = d.isNon := by
  cases d with
  | non => rw [show v = .non from r] <;> rfl
  | bl b => rw [show v = .bl b from r] <;> rfl
  | int b => rw [show v = .int b from r] <;> rfl
  | str b => rw [show v = .str b from r] <;> rfl
  | tup ds => obtain ⟨a, vs, e, _⟩ := r; rw [e] <;> rfl
  | lst ds => obtain ⟨a, vs, e, _⟩ := r; rw [e] <;> rfl
  | dic ks ds => obtain ⟨a, vs, o, e, _⟩ := r; rw [e] <;> rfl
  | ref n => obtain ⟨a, e, _⟩ := r; rw [e] <;> rfl
  | fn x => rw [show v = .ref _ from r] <;> rfl
  | lam n => obtain ⟨a, _, _, _, _, e, _⟩ := r; rw [e] <;> rfl
  | scr ns => obtain ⟨a, e, _⟩ := r; rw [e] <;> rfl
end

/-! ### == -/
mutual
def D.eqv : D → D → Bool
  | .non, .non => true
  | .bl a, .bl b => a == b
  | .bl a, .int j => (if a then 1 else 0) == j
  | .int i, .bl b => i == (if b then 1 else 0)
  | .int i, .int j => i == j
  | .str x, .str y => x == y
  | .lst xs, .lst ys => D.eqvs xs ys
  | .tup xs, .tup ys => D.eqvs xs ys
  | _, _ => false
def D.eqvs : List D → List D → Bool
  | [], [] => true
  | x :: xs, y :: ys => D.eqv x y && D.eqvs xs ys
  | _, _ => false
end
mutual
/-- None, bools, intsD, texts, lists and tuples of such -/
def D.dat : D → Bool
  | .non => true
  | .bl _ => true
  | .int _ => true
  | .str x => x.cps.all (· < 0x110000)
  | .lst xs => D.dats xs
  | .tup xs => D.dats xs
  | _ => false
def D.dats : List D → Bool
  | [] => true
  | x :: xs => D.dat x && D.dats xs
end
mutual
def D.dep : D → Nat
  | .lst xs => D.deps xs + 1
  | .tup xs => D.deps xs + 1
  | _ => 0
def D.deps : List D → Nat
  | [] => 0
  | x :: xs => max (D.dep x) (D.deps xs)
end
mutual
def D.py : D → PyData
  | .non => .none
  | .bl b => .bool b
  | .int i => .int i
  | .str x => .str x
  | .lst xs => .list (D.pys xs)
  | .tup xs => .tuple (D.pys xs)
  | _ => .none
def D.pys : List D → List PyData
  | [] => []
  | x :: xs => D.py x :: D.pys xs
end
section
variable {g : GC} {μ : Mp} {H : Hp}
mutual
theorem py_can : ∀ {d : D}, d.dat = true → (D.py d).canLay0 = true
  | .non, _ => rfl
  | .bl _, _ => rfl
  | .int _, _ => rfl
  | .str x, h => h
  | .lst xs, h => by
    have h : D.dats xs = true := h
    exact pys_can h
  | .tup xs, h => by
    have h : D.dats xs = true := h
    exact pys_can h
  | .dic _ _, h => nomatch h
  | .ref _, h => nomatch h
  | .fn _, h => nomatch h
  | .lam _, h => nomatch h
  | .scr _, h => nomatch h
theorem pys_can : ∀ {ds : List D}, D.dats ds = true → PyData.canLayAll0 (D.pys ds) = true
  | [], _ => rfl
  | d :: ds, h => by
    have h : (D.dat d && D.dats ds) = true := h
    rw [Bool.and_eq_true] at h
    show ((D.py d).canLay0 && PyData.canLayAll0 (D.pys ds)) = true
    rw [py_can h.1, pys_can h.2] <;> rfl
end
mutual
theorem py_dep : ∀ (d : D), (D.py d).depth = d.dep
  | .non => rfl
  | .bl _ => rfl
  | .int _ => rfl
  | .str x => rfl
  | .lst xs => congrArg (· + 1) (pys_dep xs)
  | .tup xs => congrArg (· + 1) (pys_dep xs)
  | .dic _ _ => rfl
  | .ref _ => rfl
  | .fn _ => rfl
  | .lam _ => rfl
  | .scr _ => rfl
theorem pys_dep : ∀ (ds : List D), PyData.depthAll (D.pys ds) = D.deps ds
  | [] => rfl
  | d :: ds => by
    show max (D.py d).depth (PyData.depthAll (D.pys ds)) = max d.dep (D.deps ds)
    rw [py_dep d, pys_dep ds]
end
mutual
theorem py_eqv : ∀ (d e : D), d.dat = true → e.dat = true → PyData.eqv (D.py d) (D.py e) = D.eqv d e
  | .non, e, _, h => by cases e <;> first | rfl | cases h
  | .bl _, e, _, h => by cases e <;> first | rfl | cases h
  | .int _, e, _, h => by cases e <;> first | rfl | cases h
  | .str x, e, _, h => by cases e <;> first | rfl | cases h
  | .lst xs, e, q, h => by
    cases e <;> first
      | exact pys_eqv xs _ q h
      | rfl
      | cases h
  | .tup xs, e, q, h => by
    cases e <;> first
      | exact pys_eqv xs _ q h
      | rfl
      | cases h
  | .dic _ _, _, h, _ => nomatch h
  | .ref _, _, h, _ => nomatch h
  | .fn _, _, h, _ => nomatch h
  | .lam _, _, h, _ => nomatch h
  | .scr _, _, h, _ => nomatch h
theorem pys_eqv : ∀ (ds es : List D), D.dats ds = true → D.dats es = true → PyData.eqvAll (D.pys ds) (D.pys es) = D.eqvs ds es
  | [], [], _, _ => rfl
  | [], _ :: _, _, _ => rfl
  | _ :: _, [], _, _ => rfl
  | d :: ds, e :: es, h, h' => by
    have h : (D.dat d && D.dats ds) = true := h
    have h' : (D.dat e && D.dats es) = true := h'
    rw [Bool.and_eq_true] at h h'
    show (PyData.eqv (D.py d) (D.py e) && PyData.eqvAll (D.pys ds) (D.pys es)) = (D.eqv d e && D.eqvs ds es)
    rw [py_eqv d e h.1 h'.1, pys_eqv ds es h.2 h'.2]
end
mutual
theorem py_dp : ∀ {d : D} {v : V}, d.dat = true → Rep g μ H d v → Dp g.K H v (D.py d)
  | .non, v, _, r => by rw [show v = .non from r]; exact .non
  | .bl b, v, _, r => by rw [show v = .bl b from r]; exact .bl b
  | .int i, v, _, r => by rw [show v = .int i from r]; exact .int i
  | .str x, v, _, r => by rw [show v = .str x from r]; exact .str x
  | .lst xs, v, h, r => by
    obtain ⟨a, vs, e, ⟨_, h1⟩, h2⟩ := r
    rw [e]
    exact .lst (.inl (.inl h1)) (pys_dp h h2)
  | .tup xs, v, h, r => by
    obtain ⟨a, vs, e, h1, h2⟩ := r
    rw [e]
    refine .tup ?_ (pys_dp h h2)
    rcases h1 with ⟨_, h⟩ | h
    · exact .inl h
    · exact .inr h
  | .dic _ _, _, h, _ => nomatch h
  | .ref _, _, h, _ => nomatch h
  | .fn _, _, h, _ => nomatch h
  | .lam _, _, h, _ => nomatch h
  | .scr _, _, h, _ => nomatch h
theorem pys_dp : ∀ {ds : List D} {vs : List V}, D.dats ds = true → Reps g μ H ds vs → DpAll g.K H vs (D.pys ds)
  | [], vs, _, r => by rw [show vs = [] from r]; exact .nil
  | d :: ds, vs, h, r => by
    have h : (D.dat d && D.dats ds) = true := h
    rw [Bool.and_eq_true] at h
    obtain ⟨v, vr, e, h1, h2⟩ := r
    rw [e]
    exact .cons (py_dp h.1 h1) (pys_dp h.2 h2)
end
end
def D.isStr : D → Bool
  | .str _ => true
  | _ => false
def D.isSc : D → Bool
  | .non => true
  | .bl _ => true
  | .int _ => true
  | .str _ => true
  | _ => false
/-- a list of the store, as a list -/
def norm (st : Store) : D → D
  | .ref n => match lstAt st n with
    | some ds => .lst ds
    | none => .ref n
  | .scr ns => .lst (ns.map .int)
  | d => d
/-- what == asks -/
def okEq (x y : D) : Bool := (x.isSc && y.isSc && (x.isStr || y.isStr)) || (x.dat && y.dat && decide (x.dep ≤ 64) && decide (y.dep ≤ 64))
def aEq (x y : D) (st : Store) : R D := if okEq (norm st x) (norm st y) = true then .ok (.bl (D.eqv (norm st x) (norm st y))) st else .bad
def aNe (x y : D) (st : Store) : R D := if okEq (norm st x) (norm st y) = true then .ok (.bl (!D.eqv (norm st x) (norm st y))) st else .bad
section
variable {g : GC} {μ : Mp} {H : Hp} {st : Store}
theorem norm_dp (S : RelS g μ H st) {d : D} {v : V} (h : (norm st d).dat = true) (r : Rep g μ H d v) : Dp g.K H v (D.py (norm st d)) := by
  cases d with
  | ref n =>
    obtain ⟨a, e1, h1⟩ := r
    cases q : lstAt st n with
    | none => simp only [norm, q] at h; cases h
    | some xs =>
      simp only [norm, q] at h ⊢
      obtain ⟨vs, h2, h3⟩ := S.at_ n a _ h1 (lstAt_eq q)
      rw [e1]
      exact .lst (.inl (.inl h2)) (pys_dp h h3)
  | scr ns =>
    obtain ⟨a, e1, h1⟩ := r
    rw [e1]
    refine .lst ?_ (pys_dp (g := g) (μ := μ) (H := H) h (reps_ints ns))
    rcases h1 with ⟨_, h⟩ | h
    · exact .inl h
    · exact .inr h
  | _ => exact py_dp h r
theorem norm_sc {d : D} {v : V} (h : (norm st d).isSc = true) (r : Rep g μ H d v) : Rep g μ H (norm st d) v := by
  cases d with
  | ref n =>
    cases q : lstAt st n with
    | none => simp only [norm, q] at h; cases h
    | some so => simp only [norm, q] at h; cases h
  | scr ns => cases h
  | _ => exact r
theorem sc_eq {x y : D} {v u : V} (hx : x.isSc = true) (hy : y.isSc = true) (hs : (x.isStr || y.isStr) = true) (r : Rep g μ H x v) (q : Rep g μ H y u) : scal v u = true ∧ decide (v = u) = D.eqv x y := by
  have st_ : ∀ a b : Str, decide (V.str a = V.str b) = (a == b) := fun a b => dec_str
  cases x with
  | non =>
    rw [show v = .non from r]
    cases y with
    | str b => rw [show u = .str b from q]; exact ⟨rfl, rfl⟩
    | _ => first | cases hs | cases hy
  | bl a =>
    rw [show v = .bl a from r]
    cases y with
    | str b => rw [show u = .str b from q]; exact ⟨rfl, rfl⟩
    | _ => first | cases hs | cases hy
  | int a =>
    rw [show v = .int a from r]
    cases y with
    | str b => rw [show u = .str b from q]; exact ⟨rfl, rfl⟩
    | _ => first | cases hs | cases hy
  | str a =>
    rw [show v = .str a from r]
    cases y with
    | non => rw [show u = .non from q]; exact ⟨rfl, rfl⟩
    | bl b => rw [show u = .bl b from q]; exact ⟨rfl, rfl⟩
    | int b => rw [show u = .int b from q]; exact ⟨rfl, rfl⟩
    | str b => rw [show u = .str b from q]; exact ⟨rfl, st_ a b⟩
    | _ => cases hy
  | _ => cases hx
end

/-! ### they do so -/
section
variable {X : Cx} {g : GC} {W : WX} {k : Nat}
theorem len_nil {μ : Mp} {H : Hp} {ds : List D} {vs : List V} (r : Reps g μ H ds vs) (h : vs = []) : ds = [] := by
  have := r.len
  rw [h] at this
  exact List.eq_nil_of_length_eq_zero this
theorem oAdd {b : Bool} (O : Ok X g W k) : OpD X g W (binaryOp .Add) (aAdd b) := by
  refine ⟨_, (op_add.or op_add_str).or ((op_catA).or op_cat), ?_⟩
  intro σ μ H st x y v u Q S rx ry h
  unfold aAdd at h
  split at h
  · exact .inl (.inl ⟨_, _, rx, ry, h.here S _ rfl⟩)
  · split at h
    · rename_i hl
      exact .inl (.inr ⟨_, _, rx, ry, sizeLine_le hl, h.here S _ rfl⟩)
    · exact h.elim
  · split at h
    · rename_i xs ys hl
      obtain ⟨a, vs, e1, h1, r1⟩ := seqT_ok rx rfl
      obtain ⟨a2, vs2, e2, h2, r2⟩ := seqT_ok ry rfl
      refine .inr (.inl ?_)
      rw [O.hK]
      refine ⟨a, a2, vs, vs2, e1, e2, h1, h2, sizeLine_le (by rw [← r1.len, ← r2.len]; exact hl), fun z => ?_, fun _ z => ?_, fun _ _ p hp => mkT_ok S (r1.append r2) h hp⟩
      · have e := len_nil r1 z
        subst e e2
        exact h.here S _ ry
      · have e := len_nil r2 z
        subst e e1
        rw [List.append_nil] at h
        exact h.here S _ rx
    · exact h.elim
  · split at h
    · rename_i xs ys e1 e2
      split at h
      · rename_i hl
        obtain ⟨a, vs, e1, h1, r1⟩ := seqR_ok S rx e1
        obtain ⟨a2, vs2, e2, h2, r2⟩ := seqR_ok S ry e2
        exact .inr (.inr ⟨a, a2, vs, vs2, e1, e2, h1, h2, sizeLine_le (by rw [← r1.len, ← r2.len]; exact hl), fun p hp => mkL_ok S (r1.append r2) h hp⟩)
      · exact h.elim
    · exact h.elim
/-- two ints in, a value out -/
theorem oI {f : Value → Value → Sem Value} {q : Int → Int → V} {h : D → D → Store → R D} (ho : OpR X f (rI0 q)) (q' : Int → Int → D) (hq : ∀ i j μ H, Rep g μ H (q' i j) (q i j)) (h1 : ∀ i j st, h (.int i) (.int j) st = .ok (q' i j) st)
    (h2 : ∀ x y st, (∀ i j, ¬ (x = .int i ∧ y = .int j)) → h x y st = .bad) : OpD X g W f h := by
  refine ⟨_, ho, fun σ μ H st x y v u Q S rx ry hh => ?_⟩
  by_cases e : ∃ i j, x = .int i ∧ y = .int j
  · obtain ⟨i, j, rfl, rfl⟩ := e
    rw [h1] at hh
    exact ⟨i, j, rx, ry, hh.here S _ (hq _ _ _ _)⟩
  · rw [h2 x y st fun i j q => e ⟨i, j, q⟩] at hh
    exact hh.elim
theorem oSub : OpD X g W (binaryOp .Sub) aSub := oI op_sub (fun i j => .int (i - j)) (fun _ _ _ _ => rfl) (fun _ _ _ => rfl) fun x y st h => by
  unfold aSub
  split
  · exact absurd ⟨rfl, rfl⟩ (h _ _)
  · rfl
theorem okMul_ok {i j : Int} (h : okMul i j = true) : CMul i j := by
  unfold okMul at h
  rw [Bool.or_eq_true] at h
  rcases h with h | h
  · exact .inl (of_decide_eq_true h)
  · exact .inr (of_decide_eq_true h)
theorem reps_rep {μ : Mp} {H : Hp} {ds : List D} {vs : List V} (r : Reps g μ H ds vs) : ∀ n : Nat, Reps g μ H (List.replicate n ds).flatten (List.replicate n vs).flatten
  | 0 => rfl
  | n + 1 => by
    rw [List.replicate_succ, List.replicate_succ, List.flatten_cons, List.flatten_cons]
    exact r.append (reps_rep r n)
theorem oMul {b : Bool} : OpD X g W (binaryOp .Mult) (aMul b) := by
  refine ⟨_, op_mul.or op_rep, fun σ μ H st x y v u Q S rx ry h => ?_⟩
  unfold aMul at h
  split at h
  · split at h
    · rename_i hm
      exact .inl ⟨_, _, rx, ry, okMul_ok hm, h.here S _ rfl⟩
    · exact h.elim
  · split at h
    · rename_i xs k hm
      simp only [Bool.and_eq_true, decide_eq_true_eq] at hm
      obtain ⟨⟨h1, h2⟩, h3⟩ := hm
      obtain ⟨a, vs, e1, ⟨_, hl⟩, r1⟩ := rx
      exact .inr ⟨a, k, vs, e1, ry, hl, h1, h2, sizeLine_le (by rw [← r1.len]; exact h3), fun p hp => mkL_ok S (reps_rep r1 _) h hp⟩
    · exact h.elim
  · exact h.elim
/-- two ints in under a condition -/
theorem oC {f : Value → Value → Sem Value} {C : Int → Int → Prop} {q : Int → Int → V} {h : D → D → Store → R D} (ho : OpR X f (rI C q)) (c : Int → Int → Prop) [∀ i j, Decidable (c i j)] (q' : Int → Int → D) (hq : ∀ i j μ H, Rep g μ H (q' i j) (q i j)) (hc : ∀ i j, c i j → C i j)
    (h1 : ∀ i j st, h (.int i) (.int j) st = if c i j then .ok (q' i j) st else .bad) (h2 : ∀ x y st, (∀ i j, ¬ (x = .int i ∧ y = .int j)) → h x y st = .bad) : OpD X g W f h := by
  refine ⟨_, ho, fun σ μ H st x y v u Q S rx ry hh => ?_⟩
  by_cases e : ∃ i j, x = .int i ∧ y = .int j
  · obtain ⟨i, j, rfl, rfl⟩ := e
    rw [h1] at hh
    split at hh
    · rename_i hcc
      exact ⟨i, j, rx, ry, hc _ _ hcc, hh.here S _ (hq _ _ _ _)⟩
    · exact hh.elim
  · rw [h2 x y st fun i j q => e ⟨i, j, q⟩] at hh
    exact hh.elim
theorem oFdiv : OpD X g W (binaryOp .FloorDiv) aFdiv := oC op_fdivN (fun i j => j ≠ 0 ∧ j.natAbs < 1073741824) (fun i j => .int (i.fdiv j)) (fun _ _ _ _ => rfl) (fun _ _ h => h) (fun _ _ _ => rfl) fun x y st h => by
  unfold aFdiv
  split
  · exact absurd ⟨rfl, rfl⟩ (h _ _)
  · rfl
theorem oMod : OpD X g W (binaryOp .Mod) aMod := oC op_modN (fun i j => j ≠ 0) (fun i j => .int (i.fmod j)) (fun _ _ _ _ => rfl) (fun _ _ h => h) (fun _ _ _ => rfl) fun x y st h => by
  unfold aMod
  split
  · exact absurd ⟨rfl, rfl⟩ (h _ _)
  · rfl
theorem oPow : OpD X g W (binaryOp .Pow) aPow := oC op_pow (fun i j => 0 ≤ j ∧ j ≤ 1000000 ∧ i.natAbs < 18446744073709551616) (fun i j => .int (i ^ j.toNat)) (fun _ _ _ _ => rfl) (fun _ _ h => h) (fun _ _ _ => rfl) fun x y st h => by
  unfold aPow
  split
  · exact absurd ⟨rfl, rfl⟩ (h _ _)
  · rfl
theorem oLt (O : Ok X g W k) : OpD X g W (compareOp .Lt) aLt := by
  refine ⟨_, (op_lt.or (op_ltT (by have := O.hu; omega))).or op_lt_str, fun σ μ H st x y v u Q S rx ry h => ?_⟩
  unfold aLt at h
  split at h
  · exact .inl (.inl ⟨_, _, rx, ry, h.here S _ rfl⟩)
  · split at h
    · rename_i xs ys ns ms h1 h2
      obtain ⟨a, vs, e1, q1, r1⟩ := seqT_ok rx rfl
      obtain ⟨a2, vs2, e2, q2, r2⟩ := seqT_ok ry rfl
      refine .inl (.inr ?_)
      rw [O.hK]
      rw [ints_ok h1 r1] at q1
      rw [ints_ok h2 r2] at q2
      exact ⟨a, a2, ns, ms, e1, e2, q1, q2, h.here S _ rfl⟩
    · exact h.elim
  · exact .inr ⟨_, _, rx, ry, h.here S _ rfl⟩
  · exact h.elim
theorem oLe : OpD X g W (compareOp .LtE) aLe := oI op_le (fun i j => .bl (decide (i ≤ j))) (fun _ _ _ _ => rfl) (fun _ _ _ => rfl) fun x y st h => by
  unfold aLe
  split
  · exact absurd ⟨rfl, rfl⟩ (h _ _)
  · rfl
theorem oGt : OpD X g W (compareOp .Gt) aGt := oI op_gt (fun i j => .bl (decide (j < i))) (fun _ _ _ _ => rfl) (fun _ _ _ => rfl) fun x y st h => by
  unfold aGt
  split
  · exact absurd ⟨rfl, rfl⟩ (h _ _)
  · rfl
theorem oGe : OpD X g W (compareOp .GtE) aGe := oI op_ge (fun i j => .bl (decide (j ≤ i))) (fun _ _ _ _ => rfl) (fun _ _ _ => rfl) fun x y st h => by
  unfold aGe
  split
  · exact absurd ⟨rfl, rfl⟩ (h _ _)
  · rfl
theorem oIsN : OpD X g W (compareOp .Is) aIsN := by
  refine ⟨_, op_isN, fun σ μ H st x y v u Q S rx ry h => ?_⟩
  unfold aIsN at h
  split at h
  · refine ⟨ry, ?_⟩
    rw [isNon_ok rx]
    exact h.here S _ rfl
  · exact h.elim
theorem oNotN : OpD X g W (compareOp .IsNot) aNotN := by
  refine ⟨_, op_notN, fun σ μ H st x y v u Q S rx ry h => ?_⟩
  unfold aNotN at h
  split at h
  · refine ⟨ry, ?_⟩
    rw [isNon_ok rx]
    exact h.here S _ rfl
  · exact h.elim
theorem oEq (O : Ok X g W k) : OpD X g W (compareOp .Eq) aEq := by
  refine ⟨_, op_eq.or (op_eqD O.hu), fun σ μ H st x y v u Q S rx ry h => ?_⟩
  unfold aEq at h
  split at h
  · rename_i ho
    have q := h.here S _ rfl
    unfold okEq at ho
    rw [Bool.or_eq_true] at ho
    rcases ho with ho | ho
    · rw [Bool.and_eq_true, Bool.and_eq_true] at ho
      obtain ⟨h1, h2⟩ := sc_eq ho.1.1 ho.1.2 ho.2 (norm_sc ho.1.1 rx) (norm_sc ho.1.2 ry)
      exact .inl ⟨h1, by rw [h2]; exact q⟩
    · simp only [Bool.and_eq_true, decide_eq_true_eq] at ho
      obtain ⟨⟨⟨d1, d2⟩, p1⟩, p2⟩ := ho
      refine .inr ?_
      rw [O.hK]
      refine ⟨_, _, norm_dp S d1 rx, norm_dp S d2 ry, ?_, ?_, ?_⟩
      · unfold SeqAt.shaped
        rw [py_can d1, py_dep, decide_eq_true p1] <;> rfl
      · unfold SeqAt.shaped
        rw [py_can d2, py_dep, decide_eq_true p2] <;> rfl
      · rw [py_eqv _ _ d1 d2]
        exact q
  · exact h.elim
theorem oNe (O : Ok X g W k) : OpD X g W (compareOp .NotEq) aNe := by
  refine ⟨_, op_ne.or (op_neD O.hu), fun σ μ H st x y v u Q S rx ry h => ?_⟩
  unfold aNe at h
  split at h
  · rename_i ho
    have q := h.here S _ rfl
    unfold okEq at ho
    rw [Bool.or_eq_true] at ho
    rcases ho with ho | ho
    · rw [Bool.and_eq_true, Bool.and_eq_true] at ho
      obtain ⟨h1, h2⟩ := sc_eq ho.1.1 ho.1.2 ho.2 (norm_sc ho.1.1 rx) (norm_sc ho.1.2 ry)
      exact .inl ⟨h1, by rw [h2]; exact q⟩
    · simp only [Bool.and_eq_true, decide_eq_true_eq] at ho
      obtain ⟨⟨⟨d1, d2⟩, p1⟩, p2⟩ := ho
      refine .inr ?_
      rw [O.hK]
      refine ⟨_, _, norm_dp S d1 rx, norm_dp S d2 ry, ?_, ?_, ?_⟩
      · unfold SeqAt.shaped
        rw [py_can d1, py_dep, decide_eq_true p1] <;> rfl
      · unfold SeqAt.shaped
        rw [py_can d2, py_dep, decide_eq_true p2] <;> rfl
      · rw [py_eqv _ _ d1 d2]
        exact q
  · exact h.elim
/-! ### unary -/
def dNeg (fa : DE) : DE := fun env st => (fa env st).bind fun x st => match x with
  | .int i => .ok (.int (-i)) st
  | _ => .bad
theorem pd_neg {a : Expr} {fa : DE} {pos : Pos} (ha : PD X g W a fa) : PD X g W (.UnaryOp .USub a pos) (dNeg fa) := PE.imp (pe_un un_neg ha) fun σ H Q ⟨μ, env, st, S, E, h⟩ => by
  refine bindE S E h fun μ1 H1 d st1 v L1 S1 E1 r1 h1 => ?_
  cases d with
  | int i => exact ⟨i, r1, h1.here S1 _ rfl⟩
  | _ => exact h1.elim
end
end G

namespace G
open PySem L2
/-! ### tests -/
section
variable {X : Cx} {g : GC} {W : WX} {k : Nat} {pos : Pos}
theorem pt_chain {a b c : Expr} {fa fb fc : DE} {op op' : CmpOp} {h h' : D → D → Store → R D} (ho : OpD X g W (compareOp op) h) (ho' : OpD X g W (compareOp op') h') (ha : PD X g W a fa) (hb : PD X g W b fb) (hc : PD X g W c fc)
    (hm : lastMarks [op, op'] [b, c] = false := by with_unfolding_all rfl) : PTD X g W (.Compare a [op, op'] [b, c] pos) (dB (dChain h h' fa fb fc)) := by
  obtain ⟨r, h1, h2⟩ := ho
  obtain ⟨r', h1', h2'⟩ := ho'
  exact PT.imp (L2.pt_chain h1 h1' ha hb hc hm) fun σ H Q q => dChain_ok h2 h2' (dB_ok q)
/-- an expression that gives True or False, as a test -/
theorem pt_b {e : Expr} {f : DE} (h : PD X g W e f) (he : ∀ whole, isTrue e X.env whole = (do let v ← whole; standAt e.pos; holding [v] (truthy v)) := by intro _; rfl) : PTD X g W e (dB f) :=
  PT.imp (pt_val h he) fun σ H Q q => dB_ok q
/-- the truth of a value -/
def truD (st : Store) : D → Option Bool
  | .non => some false
  | .bl b => some b
  | .int i => some (i != 0)
  | .str x => if x.length ≤ 16777216 then some ((x.length : Int) != 0) else none
  | .tup ds => some (!ds.isEmpty)
  | .lst ds => some (!ds.isEmpty)
  | .ref n => (lstAt st n).map fun ds => !ds.isEmpty
  | .scr ns => some (!ns.isEmpty)
  | _ => none
def dTru (f : DE) : DT := fun env st => (f env st).bind fun d st => match truD st d with
  | some b => .ok b st
  | none => .bad
theorem reps_emp {μ : Mp} {H : Hp} {ds : List D} {vs : List V} (r : Reps g μ H ds vs) : (!vs.isEmpty) = !ds.isEmpty := by
  cases ds with
  | nil => rw [show vs = [] from r] <;> rfl
  | cons d ds => obtain ⟨v, vr, e, _⟩ := r; rw [e] <;> rfl
theorem truD_ok {μ : Mp} {H : Hp} {st : Store} (S : RelS g μ H st) {d : D} {v : V} (r : Rep g μ H d v) {b : Bool} (h : truD st d = some b) : TruV g.K v H b := by
  cases d with
  | non => rw [show v = .non from r]; cases h; rfl
  | bl c => rw [show v = .bl c from r]; cases h; rfl
  | int i => rw [show v = .int i from r]; cases h; rfl
  | str x =>
    rw [show v = .str x from r]
    unfold truD at h
    by_cases hl : x.length ≤ 16777216
    · simp only [hl, if_true] at h
      cases h
      exact ⟨sizeLine_le hl, rfl⟩
    · simp only [hl, if_false] at h
      cases h
  | tup ds =>
    obtain ⟨a, vs, e, h1, r1⟩ := seqT_ok (ds := ds) r rfl
    cases h
    rw [e]
    exact .inr (.inl ⟨vs, h1, (reps_emp r1).symm⟩)
  | lst ds =>
    obtain ⟨a, vs, e, h1, r1⟩ := seqL_ok S (ds := ds) r rfl
    cases h
    rw [e]
    exact .inl ⟨vs, h1, (reps_emp r1).symm⟩
  | ref n =>
    cases q : lstAt st n with
    | none => simp only [truD, q] at h; cases h
    | some ds =>
      simp only [truD, q] at h
      cases h
      obtain ⟨a, vs, e, h1, r1⟩ := seqL_ok S (ds := ds) r q
      rw [e]
      exact .inl ⟨vs, h1, (reps_emp r1).symm⟩
  | scr ns =>
    obtain ⟨a, vs, e, h1, r1⟩ := seqL_ok S (ds := ns.map .int) r rfl
    cases h
    rw [e]
    refine .inl ⟨vs, h1, ?_⟩
    rw [reps_emp r1]
    cases ns <;> rfl
  | _ => cases h
theorem pt_tru {e : Expr} {f : DE} (O : Ok X g W k) (h : PD X g W e f) (he : ∀ whole, isTrue e X.env whole = (do let v ← whole; standAt e.pos; holding [v] (truthy v)) := by intro _; rfl) : PTD X g W e (dTru f) :=
  PT.imp (pt_truth h he) fun σ H Q ⟨μ, env, st, S, E, q⟩ => by
    refine bindE S E q fun μ1 H1 d st1 v L1 S1 E1 r1 h1 => ?_
    cases hb : truD st1 d with
    | none => rw [hb] at h1; exact h1.elim
    | some b =>
      rw [hb] at h1
      refine ⟨b, ?_, h1.here S1⟩
      rw [O.hK]
      exact truD_ok S1 r1 hb
def dNot (f : DT) : DT := fun env st => (f env st).bind fun b st => .ok (!b) st
theorem pt_not {a : Expr} {fa : DT} (ha : PTD X g W a fa) : PTD X g W (.UnaryOp .Not a pos) (dNot fa) := PT.imp (L2.pt_not ha) fun σ H Q ⟨μ, env, st, S, E, h⟩ => by
  exact bindT S E h fun μ1 H1 b st1 L1 S1 E1 h1 => h1.here S1
/-- a chain of and, or -/
def PWD (X : Cx) (g : GC) (W : WX) (e : Expr) (f : DT) : Prop := PW X e (tDT g W f)
def dAnd (fa fb : DT) : DT := fun env st => (fa env st).bind fun b st => if b = true then fb env st else .ok false st
def dOr (fa fb : DT) : DT := fun env st => (fa env st).bind fun b st => if b = true then .ok true st else fb env st
theorem pw_and1 {a : Expr} {fa : DT} (ha : PTD X g W a fa) : PWD X g W (.BoolOp .And [a] pos) fa := L2.pw_and1 ha
theorem pw_or1 {a : Expr} {fa : DT} (ha : PTD X g W a fa) : PWD X g W (.BoolOp .Or [a] pos) fa := L2.pw_or1 ha
theorem pw_and {a b : Expr} {rest : List Expr} {fa fb : DT} (ha : PTD X g W a fa) (hb : PWD X g W (.BoolOp .And (b :: rest) pos) fb) : PWD X g W (.BoolOp .And (a :: b :: rest) pos) (dAnd fa fb) :=
  PW.imp (L2.pw_and ha hb) fun σ H Q ⟨μ, env, st, S, E, h⟩ => by
    refine bindT S E h fun μ1 H1 b st1 L1 S1 E1 h1 => ?_
    cases b with
    | true => rw [if_pos rfl] at h1 ⊢; exact ⟨μ1, env, st1, S1, E1, h1⟩
    | false => rw [if_neg Bool.false_ne_true] at h1 ⊢; exact h1.here S1
theorem pw_or {a b : Expr} {rest : List Expr} {fa fb : DT} (ha : PTD X g W a fa) (hb : PWD X g W (.BoolOp .Or (b :: rest) pos) fb) : PWD X g W (.BoolOp .Or (a :: b :: rest) pos) (dOr fa fb) :=
  PW.imp (L2.pw_or ha hb) fun σ H Q ⟨μ, env, st, S, E, h⟩ => by
    refine bindT S E h fun μ1 H1 b st1 L1 S1 E1 h1 => ?_
    cases b with
    | true => rw [if_pos rfl] at h1 ⊢; exact h1.here S1
    | false => rw [if_neg Bool.false_ne_true] at h1 ⊢; exact ⟨μ1, env, st1, S1, E1, h1⟩
theorem pt_w {e : Expr} {f : DT} (h : PWD X g W e f) : PTD X g W e f := PW.pt h
/-- as values: True or False -/
def dAndV (fa fb : DE) : DE := fun env st => (fa env st).bind fun x st => match x with
  | .bl true => fb env st
  | .bl false => .ok (.bl false) st
  | _ => .bad
def dOrV (fa fb : DE) : DE := fun env st => (fa env st).bind fun x st => match x with
  | .bl true => .ok (.bl true) st
  | .bl false => fb env st
  | _ => .bad
def dNotV (fa : DE) : DE := fun env st => (fa env st).bind fun x st => match x with
  | .bl b => .ok (.bl (!b)) st
  | _ => .bad
theorem pd_one {op : BoolOp} {a : Expr} {fa : DE} (ha : PD X g W a fa) : PD X g W (.BoolOp op [a] pos) fa := pe_one ha
theorem pd_and {a b : Expr} {rest : List Expr} {fa fb : DE} (ha : PD X g W a fa) (hb : PD X g W (.BoolOp .And (b :: rest) pos) fb) : PD X g W (.BoolOp .And (a :: b :: rest) pos) (dAndV fa fb) :=
  PE.imp (pe_and ha hb) fun σ H Q ⟨μ, env, st, S, E, h⟩ => by
    refine bindE S E h fun μ1 H1 d st1 v L1 S1 E1 r1 h1 => ?_
    cases d with
    | bl c =>
      refine ⟨c, r1, ?_⟩
      cases c with
      | true => rw [if_pos rfl]; exact ⟨μ1, env, st1, S1, E1, h1⟩
      | false => rw [if_neg Bool.false_ne_true]; exact (show Post g W σ μ1 H1 (.ok (.bl false) st1) (VP g Q) from h1).here S1 _ rfl
    | _ => exact h1.elim
theorem pd_or {a b : Expr} {rest : List Expr} {fa fb : DE} (ha : PD X g W a fa) (hb : PD X g W (.BoolOp .Or (b :: rest) pos) fb) : PD X g W (.BoolOp .Or (a :: b :: rest) pos) (dOrV fa fb) :=
  PE.imp (pe_or ha hb) fun σ H Q ⟨μ, env, st, S, E, h⟩ => by
    refine bindE S E h fun μ1 H1 d st1 v L1 S1 E1 r1 h1 => ?_
    cases d with
    | bl c =>
      refine ⟨c, r1, ?_⟩
      cases c with
      | true => rw [if_pos rfl]; exact (show Post g W σ μ1 H1 (.ok (.bl true) st1) (VP g Q) from h1).here S1 _ rfl
      | false => rw [if_neg Bool.false_ne_true]; exact ⟨μ1, env, st1, S1, E1, h1⟩
    | _ => exact h1.elim
theorem pd_not {a : Expr} {fa : DE} (ha : PD X g W a fa) : PD X g W (.UnaryOp .Not a pos) (dNotV fa) := PE.imp (pe_not ha) fun σ H Q ⟨μ, env, st, S, E, h⟩ => by
  refine bindE S E h fun μ1 H1 d st1 v L1 S1 E1 r1 h1 => ?_
  cases d with
  | bl c => exact ⟨c, r1, h1.here S1 _ rfl⟩
  | _ => exact h1.elim
/-- a if t else b -/
def dIf (ft : DT) (fa fb : DE) : DE := fun env st => (ft env st).bind fun b st => if b = true then fa env st else fb env st
theorem pd_if {c a b : Expr} {ft : DT} {fa fb : DE} (hc : PTD X g W c ft) (ha : PD X g W a fa) (hb : PD X g W b fb) : PD X g W (.IfExp c a b pos) (dIf ft fa fb) := PE.imp (pe_ifExp hc ha hb) fun σ H Q ⟨μ, env, st, S, E, h⟩ => by
  refine bindT S E h fun μ1 H1 b st1 L1 S1 E1 h1 => ?_
  cases b with
  | true => rw [if_pos rfl] at h1 ⊢; exact ⟨μ1, env, st1, S1, E1, h1⟩
  | false => rw [if_neg Bool.false_ne_true] at h1 ⊢; exact ⟨μ1, env, st1, S1, E1, h1⟩

/-! ### arguments, displays -/
def dNil : DA := fun _ st => .ok [] st
def dCons (fa : DE) (fr : DA) : DA := fun env st => (fa env st).bind fun d st => (fr env st).bind fun ds st => .ok (d :: ds) st
theorem pa_nil : PAD X g W [] dNil := PA.imp L2.pa_nil fun σ H Q ⟨μ, env, st, S, E, h⟩ => h.here S _ rfl
theorem pa_cons {e : Expr} {es : List Expr} {fa : DE} {fr : DA} (ha : PD X g W e fa) (hr : PAD X g W es fr) (hs : starEach (e :: es) X.env = (false, eval e X.env) :: starEach es X.env := by rfl) : PAD X g W (e :: es) (dCons fa fr) :=
  PA.imp (L2.pa_cons ha hr hs) fun σ H Q ⟨μ, env, st, S, E, h⟩ => by
    refine bindE S E h fun μ1 H1 d st1 v L1 S1 E1 r1 h1 => ?_
    refine bindA S1 E1 h1 fun μ2 H2 ds st2 vs L2 S2 E2 r2 h2 => ?_
    exact h2.here S2 _ ⟨v, vs, rfl, r1.le L2, r2⟩
def dTup (fa : DA) : DE := fun env st => (fa env st).bind fun ds st => if ds.length ≤ 16777216 then .ok (.tup ds) st else .bad
def dLst (b : Bool) (fa : DA) : DE := fun env st => (fa env st).bind fun ds st => if ds.length ≤ 16777216 then mkL b ds st else .bad
theorem pd_tup {es : List Expr} {fa : DA} {x1} (ha : PAD X g W es fa) : PD X g W (.Tuple es x1 pos) (dTup fa) := PE.imp (pe_tup ha) fun σ H Q ⟨μ, env, st, S, E, h⟩ => by
  refine bindA S E h fun μ1 H1 ds st1 vs L1 S1 E1 r1 h1 => ?_
  split at h1
  · rename_i hl
    exact ⟨sizeLine_le (by rw [← r1.len]; exact hl), fun p hp => mkT_ok S1 r1 h1 hp⟩
  · exact h1.elim
theorem pd_lst (b : Bool) {es : List Expr} {fa : DA} (ha : PAD X g W es fa) : PD X g W (.List es pos) (dLst b fa) := PE.imp (pe_lst ha) fun σ H Q ⟨μ, env, st, S, E, h⟩ => by
  refine bindA S E h fun μ1 H1 ds st1 vs L1 S1 E1 r1 h1 => ?_
  split at h1
  · rename_i hl
    exact ⟨sizeLine_le (by rw [← r1.len]; exact hl), fun p hp => mkL_ok S1 r1 h1 hp⟩
  · exact h1.elim

/-! ### subscripts, slices -/
theorem at_ok {μ : Mp} {H : Hp} {ds : List D} {vs : List V} (r : Reps g μ H ds vs) {i : Int} {d : D} (h : atI ds i = some d) : ∃ v, atI vs i = some v ∧ Rep g μ H d v := by
  unfold atI at h ⊢
  rw [← r.len]
  cases e : ixN ds.length i with
  | none => rw [e] at h; cases h
  | some j =>
    rw [e] at h
    exact r.get h
def aIx : D → D → Store → R D
  | .str x, .int i, st => if x.length ≤ 16777216 then (match atI x.cps.toList i with
    | some c => .ok (.str ⟨#[c]⟩) st
    | none => .bad) else .bad
  | x, .int i, st => match seqA st x with
    | some ds => (match atI ds i with
      | some d => .ok d st
      | none => .bad)
    | none => .bad
  | _, _, _ => .bad
theorem pd_ix {a b : Expr} {fa fb : DE} (O : Ok X g W k) (ha : PD X g W a fa) (hb : PD X g W b fb) (hs : PlainIx b := by intro _ _; rfl) : PD X g W (.Subscript a b pos) (dBin aIx fa fb) := by
  refine PE.imp (pe_ix ix_seq ha hb hs) fun σ H Q q => dBin_tOp (fun σ μ H st x y v u Q S rx ry h => ?_) q
  unfold aIx at h
  split at h
  · rename_i x i
    split at h
    · rename_i hl
      split at h
      · rename_i c hc
        exact .inr (.inr ⟨x, i, c, rx, ry, sizeLine_le hl, hc, h.here S _ rfl⟩)
      · exact h.elim
    · exact h.elim
  · split at h
    · rename_i ds hq
      split at h
      · rename_i d hd
        obtain ⟨a, vs, e, h1, r1⟩ := seqA_ok S rx hq
        obtain ⟨w, h2, r2⟩ := at_ok r1 hd
        rw [O.hK]
        rcases h1 with h1 | h1
        · exact .inl ⟨a, vs, _, w, e, ry, h1, h2, h.here S _ r2⟩
        · exact .inr (.inl ⟨a, vs, _, w, e, ry, h1, h2, h.here S _ r2⟩)
      · exact h.elim
    · exact h.elim
  · exact h.elim
abbrev DO := Env → Store → R (Option Int)
def POD (X : Cx) (g : GC) (W : WX) (e : Option Expr) (f : DO) : Prop := PO X e (fun σ H Q => ∃ μ env st, RelS g μ H st ∧ RelE g μ H env σ ∧ Post g W σ μ H (f env st) (fun _ H' o _ => Q o H'))
theorem PO.imp {X : Cx} {e : Option Expr} {t t' : TO} (h : PO X e t) (hi : ∀ σ H Q, t' σ H Q → t σ H Q) : PO X e t' := ⟨fun pins s σ H Q I q => h.run pins s σ H Q I (hi _ _ _ q)⟩
def dNoP : DO := fun _ st => .ok none st
def dP (f : DE) : DO := fun env st => (f env st).bind fun d st => match d with
  | .int i => .ok (some i) st
  | _ => .bad
theorem po_none : POD X g W none dNoP := PO.imp L2.po_none fun σ H Q ⟨μ, env, st, S, E, h⟩ => h.here S
theorem po_some {e : Expr} {f : DE} (h : PD X g W e f) : POD X g W (some e) (dP f) := PO.imp (L2.po_some h) fun σ H Q ⟨μ, env, st, S, E, h⟩ => by
  refine bindE S E h fun μ1 H1 d st1 v L1 S1 E1 r1 h1 => ?_
  cases d with
  | int i => exact ⟨i, r1, h1.here S1⟩
  | _ => exact h1.elim
def cutD (xs : List D) (lo hi : Option Int) : List D := (xs.drop (HT.sIx xs.length 0 lo)).take (HT.sIx xs.length xs.length hi - HT.sIx xs.length 0 lo)
theorem cut_ok {μ : Mp} {H : Hp} {ds : List D} {vs : List V} (r : Reps g μ H ds vs) (lo hi : Option Int) : Reps g μ H (cutD ds lo hi) (cutV vs lo hi) := by
  unfold cutD cutV
  rw [← r.len]
  exact (r.drop _).take _
def aSl (b : Bool) : D → Option Int → Option Int → Store → R D
  | .str x, lo, hi, st => if x.length ≤ 16777216 then .ok (.str (cutS x lo hi)) st else .bad
  | .tup ds, lo, hi, st => .ok (.tup (cutD ds lo hi)) st
  | x, lo, hi, st => match seqL st x with
    | some ds => mkL b (cutD ds lo hi) st
    | none => .bad
theorem cut_all {xs : List D} {lo hi : Option Int} (h : HT.sIx xs.length 0 lo = 0 ∧ HT.sIx xs.length xs.length hi = xs.length) : cutD xs lo hi = xs := by
  unfold cutD
  rw [h.1, h.2, List.drop_zero]
  exact List.take_length
def dSl (b : Bool) (fa : DE) (fl fh : DO) : DE := fun env st => (fa env st).bind fun d st => (fl env st).bind fun l st => (fh env st).bind fun h st => aSl b d l h st
theorem bindO {β : Type} {σ : L2.St} {μ : Mp} {H : Hp} {env : Env} {st : Store} {P : Mp → Hp → β → Store → Prop} {f : DO} {q : Option Int → Store → R β} (S : RelS g μ H st) (E : RelE g μ H env σ) (h : Post g W σ μ H ((f env st).bind q) P) {Rest : Option Int → Hp → Prop}
    (hk : ∀ μ1 H1 d st1, Le μ H μ1 H1 → RelS g μ1 H1 st1 → RelE g μ1 H1 env σ → Post g W σ μ1 H1 (q d st1) P → Rest d H1) : ∃ μ env st, RelS g μ H st ∧ RelE g μ H env σ ∧ Post g W σ μ H (f env st) (fun _ H' o _ => Rest o H') := by
  refine ⟨μ, env, st, S, E, ?_⟩
  generalize f env st = r at h ⊢
  cases r with
  | ok d st1 => exact fun μ1 H1 L S1 => hk μ1 H1 d st1 L S1 (E.le L) (Post.le L h)
  | ex c st1 => exact h
  | bad => exact h
theorem pd_slice (b : Bool) {e : Expr} {lo hi : Option Expr} {p2 : Pos} {fa : DE} {fl fh : DO} (O : Ok X g W k) (ha : PD X g W e fa) (hl : POD X g W lo fl) (hh : POD X g W hi fh) : PD X g W (.Subscript e (.Slice lo hi none p2) pos) (dSl b fa fl fh) :=
  PE.imp (pe_slice ((sl_list.or sl_tupA).or sl_str) ha hl hh) fun σ H Q ⟨μ, env, st, S, E, h⟩ => by
    refine bindE S E h fun μ1 H1 d st1 v L1 S1 E1 r1 h1 => ?_
    refine bindO S1 E1 h1 fun μ2 H2 lo st2 L2 S2 E2 h2 => ?_
    refine bindO S2 E2 h2 fun μ3 H3 hi st3 L3 S3 E3 h3 => ?_
    have r3 := (r1.le L2).le L3
    unfold aSl at h3
    split at h3
    · rename_i x
      split at h3
      · rename_i hz
        exact .inr ⟨x, r3, sizeLine_le hz, h3.here S3 _ rfl⟩
      · exact h3.elim
    · rename_i ds
      obtain ⟨a, vs, e, q1, q2⟩ := seqT_ok r3 rfl
      refine .inl (.inr ?_)
      rw [O.hK]
      refine ⟨a, vs, e, q1, fun z => ?_, fun _ p hp => mkT_ok S3 (cut_ok q2 lo hi) h3 hp⟩
      rw [← q2.len] at z
      rw [cut_all z] at h3
      rw [← e]
      exact h3.here S3 _ r3
    · split at h3
      · rename_i ds hq
        obtain ⟨a, vs, e, q1, q2⟩ := seqL_ok S3 r3 hq
        refine .inl (.inl ?_)
        rw [O.hK]
        exact ⟨a, vs, e, q1, fun p hp => mkL_ok S3 (cut_ok q2 lo hi) h3 hp⟩
      · exact h3.elim

/-! ### calls of defs -/
/-- the promise of a def that computes f -/
def spD (g : GC) (n : Nat) (f : List D → Store → R D) : Sp := fun vs H Q E => vs.length = n ∧ ∃ μ st ds, RelS g μ H st ∧ Reps g μ H ds vs ∧ Post g (fun c d _ H => E c d H) [] μ H (f ds st) (VP g Q)
/-- the def x of n parameters computes f, at most k calls deep -/
def FnD (P : Program) (w : World) (mg : Str → Option Value) (base : Heap) (g : GC) (k : Nat) (x : Str) (n : Nat) (f : List D → Store → R D) : Prop :=
  ∃ (fa : Addr) (fd : FuncData) (ps : List Str), mg x = some (.ref fa) ∧ PySem.W.keepIn g.K (.ref fa) = true ∧ Binds g.K fd ps [] ∧ FnOk P w g.K mg base (L2.CX P w) k fa fd ps (spD g n f)
def dCall (f : List D → Store → R D) (fa : DA) : DE := fun env st => (fa env st).bind fun ds st => f ds st
theorem pd_call {x : Str} {p : Pos} {n j : Nat} {e : Expr} {es : List Expr} {f : List D → Store → R D} {fa : DA} (O : Ok X g W k) (F : FnD X.prog X.w X.mg X.base g j x n f) (hj : j ≤ k) (ha : PAD X g W (e :: es) fa) (hn : ∀ env st ds st', fa env st = .ok ds st' → ds.length = n) (hg : Gl X x := by rfl)
    (hdb : (x == ("__debug__" : Str)) = false := by decide) (he : starEach (e :: es) X.env = (false, eval e X.env) :: starEach es X.env := by rfl) (hpl : (backTo pos (starEach es X.env)).any (·.1) = false := by rfl) : PD X g W (.Call (.Name x p) (e :: es) [] pos) (dCall f fa) := by
  obtain ⟨fA, fd, ps, h1, h2, h3, h4⟩ := F
  rw [← O.hK] at h2 h3 h4
  refine PE.imp (pe_callS h4 (O.room.mono hj) hg h1 h2 h3 (fun σ => passAt O.tk σ) ha hdb he hpl) fun σ H Q ⟨μ, env, st, S, E, h⟩ => ?_
  have hn := hn env st
  refine ⟨μ, env, st, S, E, ?_⟩
  unfold dCall at h
  generalize fa env st = r at h hn ⊢
  cases r with
  | ok ds st1 => exact fun μ1 H1 L S1 vs rv => ⟨by rw [← rv.len]; exact hn ds st1 rfl, μ1, st1, ds, S1, rv, by
    have q := Post.le L h
    have q : Post g W σ μ1 H1 (f ds st1) (VP g Q) := q
    generalize f ds st1 = r at q ⊢
    cases r with
    | ok d st2 => exact q
    | ex c st2 => exact q
    | bad => exact q⟩
  | ex c st1 => exact h
  | bad => exact h
theorem len_nil_ {env : Env} {st st' : Store} {ds : List D} (h : dNil env st = .ok ds st') : ds.length = 0 := by cases h; rfl
theorem len_cons_ {fa : DE} {fr : DA} {n : Nat} (hr : ∀ env st ds st', fr env st = .ok ds st' → ds.length = n) : ∀ env st ds st', dCons fa fr env st = .ok ds st' → ds.length = n + 1 := fun env st ds st' h => by
  unfold dCons at h
  generalize fa env st = r at h
  cases r with
  | ok d st1 =>
    have h : (fr env st1).bind (fun ds st => R.ok (d :: ds) st) = .ok ds st' := h
    cases q : fr env st1 with
    | ok ds2 st2 =>
      rw [q] at h
      cases h
      rw [List.length_cons, hr _ _ _ _ q]
    | ex c st2 => rw [q] at h; cases h
    | bad => rw [q] at h; cases h
  | ex c st1 => cases h
  | bad => cases h
end
end G

namespace G
open PySem L2
/-! ### statements -/
inductive SR where
  | nx (env : Env) (st : Store) | rt (d : D) (st : Store) | bk (env : Env) (st : Store) | ct (env : Env) (st : Store) | ex (c : Str) (env : Env) (st : Store) | bad
abbrev DS := Env → Store → SR
def PostS (g : GC) (W : WX) (μ : Mp) (H : Hp) (r : SR) (Dn : Ends) : Prop := match r with
  | .nx env st => ∀ μ' H' σ', Le μ H μ' H' → RelS g μ' H' st → RelE g μ' H' env σ' → Dn.nx σ' H'
  | .rt d st => ∀ μ' H' v, Le μ H μ' H' → RelS g μ' H' st → Rep g μ' H' d v → Dn.rt v H'
  | .bk env st => ∀ μ' H' σ', Le μ H μ' H' → RelS g μ' H' st → RelE g μ' H' env σ' → Dn.bk σ' H'
  | .ct env st => ∀ μ' H' σ', Le μ H μ' H' → RelS g μ' H' st → RelE g μ' H' env σ' → Dn.ct σ' H'
  | .ex c env st => ∀ μ' H' σ', Le μ H μ' H' → RelS g μ' H' st → RelE g μ' H' env σ' → W (.ref (g.ga c)) none σ' H'
  | .bad => False
def tDS (g : GC) (W : WX) (f : DS) : TS := fun Dn σ H => ∃ μ env st, RelS g μ H st ∧ RelE g μ H env σ ∧ PostS g W μ H (f env st) Dn
def PSD (X : Cx) (g : GC) (W : WX) (s : Stmt) (f : DS) : Prop := PS X s (tDS g W f)
def PSsD (X : Cx) (g : GC) (W : WX) (s : List Stmt) (f : DS) : Prop := PSs X s (tDS g W f)
def R.s {α : Type} (r : R α) (env : Env) (k : α → Store → SR) : SR := match r with
  | .ok a st => k a st
  | .ex c st => .ex c env st
  | .bad => .bad
@[simp] theorem R.s_ok {α : Type} (a : α) (st : Store) (env : Env) (k : α → Store → SR) : (R.ok a st).s env k = k a st := rfl
@[simp] theorem R.s_ex {α : Type} (c : Str) (st : Store) (env : Env) (k : α → Store → SR) : (R.ex c st : R α).s env k = .ex c env st := rfl
@[simp] theorem R.s_bad {α : Type} (env : Env) (k : α → Store → SR) : (R.bad : R α).s env k = .bad := rfl
section
variable {g : GC} {W : WX} {μ μ1 : Mp} {H H1 : Hp} {r : SR} {Dn Dn' : Ends}
theorem PostS.le (L : Le μ H μ1 H1) (h : PostS g W μ H r Dn) : PostS g W μ1 H1 r Dn := by
  cases r with
  | nx env st => exact fun μ' H' σ' L' => h μ' H' σ' (L.trans L')
  | rt d st => exact fun μ' H' v L' => h μ' H' v (L.trans L')
  | bk env st => exact fun μ' H' σ' L' => h μ' H' σ' (L.trans L')
  | ct env st => exact fun μ' H' σ' L' => h μ' H' σ' (L.trans L')
  | ex c env st => exact fun μ' H' σ' L' => h μ' H' σ' (L.trans L')
  | bad => exact h
variable {σ : L2.St} {env : Env} {st : Store}
theorem sE {f : DE} {k : D → Store → SR} (S : RelS g μ H st) (E : RelE g μ H env σ) (h : PostS g W μ H ((f env st).s env k) Dn) {Rest : VK}
    (hk : ∀ μ1 H1 d st1 v, Le μ H μ1 H1 → RelS g μ1 H1 st1 → RelE g μ1 H1 env σ → Rep g μ1 H1 d v → PostS g W μ1 H1 (k d st1) Dn → Rest v H1) : tDE g W f σ H Rest := by
  refine ⟨μ, env, st, S, E, ?_⟩
  generalize f env st = r at h ⊢
  cases r with
  | ok d st1 => exact fun μ1 H1 L S1 v rv => hk μ1 H1 d st1 v L S1 (E.le L) rv (PostS.le L h)
  | ex c st1 => exact fun μ1 H1 L S1 => h μ1 H1 σ L S1 (E.le L)
  | bad => exact h
theorem sT {f : DT} {k : Bool → Store → SR} (S : RelS g μ H st) (E : RelE g μ H env σ) (h : PostS g W μ H ((f env st).s env k) Dn) {Rest : Bool → Hp → Prop}
    (hk : ∀ μ1 H1 b st1, Le μ H μ1 H1 → RelS g μ1 H1 st1 → RelE g μ1 H1 env σ → PostS g W μ1 H1 (k b st1) Dn → Rest b H1) : tDT g W f σ H Rest := by
  refine ⟨μ, env, st, S, E, ?_⟩
  generalize f env st = r at h ⊢
  cases r with
  | ok d st1 => exact fun μ1 H1 L S1 => hk μ1 H1 d st1 L S1 (E.le L) (PostS.le L h)
  | ex c st1 => exact fun μ1 H1 L S1 => h μ1 H1 σ L S1 (E.le L)
  | bad => exact h
theorem sA {f : DA} {k : List D → Store → SR} (S : RelS g μ H st) (E : RelE g μ H env σ) (h : PostS g W μ H ((f env st).s env k) Dn) {Rest : List V → Hp → Prop}
    (hk : ∀ μ1 H1 ds st1 vs, Le μ H μ1 H1 → RelS g μ1 H1 st1 → RelE g μ1 H1 env σ → Reps g μ1 H1 ds vs → PostS g W μ1 H1 (k ds st1) Dn → Rest vs H1) : tDA g W f σ H Rest := by
  refine ⟨μ, env, st, S, E, ?_⟩
  generalize f env st = r at h ⊢
  cases r with
  | ok d st1 => exact fun μ1 H1 L S1 vs rv => hk μ1 H1 d st1 vs L S1 (E.le L) rv (PostS.le L h)
  | ex c st1 => exact fun μ1 H1 L S1 => h μ1 H1 σ L S1 (E.le L)
  | bad => exact h
end
section
variable {X : Cx} {g : GC} {W : WX} {k : Nat} {pos : Pos}
def dNext : DS := fun env st => .nx env st
def dSeq (f h : DS) : DS := fun env st => match f env st with
  | .nx env st => h env st
  | r => r
theorem ss_nil : PSsD X g W [] dNext := PSs.imp pss_nil fun Dn σ H ⟨μ, env, st, S, E, h⟩ => h μ H σ Le.refl S E
theorem seq_ok {f h : DS} {Dn : Ends} {σ : L2.St} {H : Hp} (q : tDS g W (dSeq f h) Dn σ H) : tSeq (tDS g W f) (tDS g W h) Dn σ H := by
  obtain ⟨μ, env, st, S, E, q⟩ := q
  refine ⟨μ, env, st, S, E, ?_⟩
  unfold dSeq at q
  generalize f env st = r at q ⊢
  cases r with
  | nx env1 st1 => exact fun μ1 H1 σ1 L S1 E1 => ⟨μ1, env1, st1, S1, E1, PostS.le L q⟩
  | rt d st => exact q
  | bk env st => exact q
  | ct env st => exact q
  | ex c env st => exact q
  | bad => exact q
theorem ss_cons {st : Stmt} {rest : List Stmt} {f h : DS} (h1 : PSD X g W st f) (h2 : PSsD X g W rest h) : PSsD X g W (st :: rest) (dSeq f h) := PSs.imp (pss_cons h1 h2) fun Dn σ H q => seq_ok q
theorem ss_one {st : Stmt} {f : DS} (h1 : PSD X g W st f) : PSsD X g W [st] f := pss_one h1
def dBreak : DS := fun env st => .bk env st
def dCont : DS := fun env st => .ct env st
theorem s_pass : PSD X g W (.Pass pos) dNext := PS.imp ps_pass fun Dn σ H ⟨μ, env, st, S, E, h⟩ => h μ H σ Le.refl S E
theorem s_break : PSD X g W (.Break pos) dBreak := PS.imp ps_break fun Dn σ H ⟨μ, env, st, S, E, h⟩ => h μ H σ Le.refl S E
theorem s_cont : PSD X g W (.Continue pos) dCont := PS.imp ps_continue fun Dn σ H ⟨μ, env, st, S, E, h⟩ => h μ H σ Le.refl S E
def dDrop (f : DE) : DS := fun env st => (f env st).s env fun _ st => .nx env st
theorem s_expr {e : Expr} {f : DE} (h : PD X g W e f) (hs : swapsWith e none pos.line X.env = pure false := by rfl) : PSD X g W (.Expr e pos) (dDrop f) := PS.imp (ps_expr h hs) fun Dn σ H ⟨μ, env, st, S, E, q⟩ =>
  sE S E q fun μ1 H1 d st1 v L S1 E1 r1 h1 => h1 μ1 H1 σ Le.refl S1 E1
def dRet (f : DE) : DS := fun env st => (f env st).s env fun d st => .rt d st
theorem s_ret {e : Expr} {f : DE} (h : PD X g W e f) : PSD X g W (.Return (some e) pos) (dRet f) := PS.imp (ps_ret h) fun Dn σ H ⟨μ, env, st, S, E, q⟩ =>
  sE S E q fun μ1 H1 d st1 v L S1 E1 r1 h1 => h1 μ1 H1 v Le.refl S1 r1
def dRetN : DS := fun _ st => .rt .non st
theorem s_retN : PSD X g W (.Return none pos) dRetN := PS.imp ps_retN fun Dn σ H ⟨μ, env, st, S, E, q⟩ => q μ H .non Le.refl S rfl
def dIfS (c : DT) (f h : DS) : DS := fun env st => (c env st).s env fun b st => if b = true then f env st else h env st
theorem s_if {c : Expr} {a b : List Stmt} {fc : DT} {f h : DS} (hc : PTD X g W c fc) (ha : PSsD X g W a f) (hb : PSsD X g W b h) : PSD X g W (.If c a b pos) (dIfS fc f h) := PS.imp (ps_if hc ha hb) fun Dn σ H ⟨μ, env, st, S, E, q⟩ =>
  sT S E q fun μ1 H1 b st1 L S1 E1 h1 => by
    cases b with
    | true => rw [if_pos rfl] at h1 ⊢; exact ⟨μ1, env, st1, S1, E1, h1⟩
    | false => rw [if_neg Bool.false_ne_true] at h1 ⊢; exact ⟨μ1, env, st1, S1, E1, h1⟩

/-! ### targets -/
abbrev DG := D → Env → Option Env
abbrev DGs := List D → Env → Option Env
/-- the same but at these slots -/
def But (is : List Nat) (σ σ' : L2.St) : Prop := σ'.length = σ.length ∧ ∀ j, j ∉ is → σ'[j]? = σ[j]?
theorem But.refl {is : List Nat} {σ : L2.St} : But is σ σ := ⟨rfl, fun _ _ => rfl⟩
theorem But.app {is js : List Nat} {σ σ' σ'' : L2.St} (a : But is σ σ') (b : But js σ' σ'') : But (is ++ js) σ σ'' := ⟨b.1.trans a.1, fun j h => by
  simp only [List.mem_append, not_or] at h
  exact (b.2 j h.2).trans (a.2 j h.1)⟩
def tDG (g : GC) (is : List Nat) (f : DG) : TG := fun v σ H Q => ∃ μ env st d, RelS g μ H st ∧ RelE g μ H env σ ∧ Rep g μ H d v ∧ ∃ env', f d env = some env' ∧ ∀ σ', RelE g μ H env' σ' → But is σ σ' → Q σ' H
def tDGs (g : GC) (is : List Nat) (f : DGs) : TGs := fun vs σ H Q => ∃ μ env st ds, RelS g μ H st ∧ RelE g μ H env σ ∧ Reps g μ H ds vs ∧ ∃ env', f ds env = some env' ∧ ∀ σ', RelE g μ H env' σ' → But is σ σ' → Q σ' H
def PGD (X : Cx) (g : GC) (e : Expr) (is : List Nat) (f : DG) : Prop := PG X e (tDG g is f)
def PGsD (X : Cx) (g : GC) (es : List Expr) (is : List Nat) (f : DGs) : Prop := PGs X es (tDGs g is f)
theorem PG.imp {X : Cx} {e : Expr} {t t' : TG} (h : PG X e t) (hi : ∀ v σ H Q, t' v σ H Q → t v σ H Q) : PG X e t' := ⟨fun pins s σ H v u Q I r q => h.run pins s σ H v u Q I r (hi _ _ _ _ q)⟩
theorem PGs.imp {X : Cx} {e : List Expr} {t t' : TGs} (h : PGs X e t) (hi : ∀ v σ H Q, t' v σ H Q → t v σ H Q) : PGs X e t' := ⟨fun pins s σ H v u Q I r q => h.run pins s σ H v u Q I r (hi _ _ _ _ q)⟩
def dgName (i : Nat) : DG := fun d env => some (env.set i (some d))
theorem g_name (i : Nat) {x : Str} (O : Ok X g W k) (hi : X.N[i]? = some x := by rfl) (hx : Loc X.env.scope x := by first | exact .inl rfl | exact .inr rfl) (hf : X.fn x = true ∨ X.env.scope.names.lookup x = some .local := by first | exact .inl rfl | exact .inr rfl) : PGD X g (.Name x pos) [i] (dgName i) :=
  PG.imp (pg_name O.nd hi hx hf) fun v σ H Q ⟨μ, env, st, d, S, E, r, env', e, q⟩ => by
    cases e
    exact q _ (E.set i r) ⟨List.length_set, fun j h => List.getElem?_set_ne fun z => h (by simp [z])⟩
def dgNil : DGs := fun ds env => match ds with
  | [] => some env
  | _ => none
def dgCons (f : DG) (h : DGs) : DGs := fun ds env => match ds with
  | [] => none
  | d :: ds => (f d env).bind fun env => h ds env
theorem gs_nil : PGsD X g [] [] dgNil := PGs.imp pgs_nil fun vs σ H Q ⟨μ, env, st, ds, S, E, r, env', e, q⟩ => by
  cases ds with
  | nil => cases e; exact ⟨r, q σ E But.refl⟩
  | cons d ds => cases e
theorem gs_cons {e : Expr} {es : List Expr} {is js : List Nat} {f : DG} {h : DGs} (h1 : PGD X g e is f) (h2 : PGsD X g es js h) (hs : (assignEach (e :: es) X.env).map (·.2) = assign e X.env :: (assignEach es X.env).map (·.2) := by rfl) : PGsD X g (e :: es) (is ++ js) (dgCons f h) :=
  PGs.imp (pgs_cons h1 h2 hs) fun vs σ H Q ⟨μ, env, st, ds, S, E, r, env', e, q⟩ => by
    cases ds with
    | nil => cases e
    | cons d ds =>
      obtain ⟨v, vr, e1, r1, r2⟩ := r
      have e : (f d env).bind (fun env => h ds env) = some env' := e
      cases q1 : f d env with
      | none => rw [q1] at e; cases e
      | some env1 =>
        rw [q1] at e
        exact ⟨v, vr, e1, μ, env, st, d, S, E, r1, env1, q1, fun σ' E' b1 => ⟨μ, env1, st, ds, S, E', r2, env', e, fun σ2 E2 b2 => q σ2 E2 (b1.app b2)⟩⟩
def dgTup (n : Nat) (h : DGs) : DG := fun d env => match d with
  | .tup ds => if ds.length = n then h ds env else none
  | _ => none
theorem g_tup {es : List Expr} {kk n : Nat} {is : List Nat} {h : DGs} (O : Ok X g W k) (hh : PGsD X g es is h) (hn : (assignEach es X.env).length = n := by rfl) (hst : (assignEach es X.env).findIdx? (·.1) = none := by rfl) : PGD X g (.Tuple es kk pos) is (dgTup n h) :=
  PG.imp (pg_tup O.calm hh hn hst) fun v σ H Q ⟨μ, env, st, d, S, E, r, env', e, q⟩ => by
    unfold dgTup at e
    split at e
    · rename_i ds
      split at e
      · rename_i hl
        obtain ⟨a, vs, e1, h1, r1⟩ := seqT_ok r rfl
        rw [O.hK]
        exact ⟨a, vs, e1, h1, by rw [← r1.len]; exact hl, μ, env, st, ds, S, E, r1, env', e, q⟩
      · cases e
    · cases e
/-- .. of a list -/
def dgLst (n : Nat) (h : DGs) : DG := fun d env => match d with
  | .lst ds => if ds.length = n then h ds env else none
  | _ => none
theorem g_lst {es : List Expr} {kk n : Nat} {is : List Nat} {h : DGs} (O : Ok X g W k) (hh : PGsD X g es is h) (hn : (assignEach es X.env).length = n := by rfl) (hst : (assignEach es X.env).findIdx? (·.1) = none := by rfl) : PGD X g (.Tuple es kk pos) is (dgLst n h) :=
  PG.imp (pg_lst O.calm hh hn hst) fun v σ H Q ⟨μ, env, st, d, S, E, r, env', e, q⟩ => by
    unfold dgLst at e
    split at e
    · rename_i ds
      split at e
      · rename_i hl
        obtain ⟨a, vs, e1, h1, r1⟩ := seqL_ok S (ds := ds) r rfl
        rw [O.hK]
        exact ⟨a, vs, e1, h1, by rw [← r1.len]; exact hl, μ, env, st, ds, S, E, r1, env', e, q⟩
      · cases e
    · cases e

/-! ### stores -/
def dAsg (f : DE) (gt : DG) : DS := fun env st => (f env st).s env fun d st => match gt d env with
  | some env => .nx env st
  | none => .bad
theorem asg_ok {f : DE} {is : List Nat} {gt : DG} {Dn : Ends} {σ : L2.St} {H : Hp} (q : tDS g W (dAsg f gt) Dn σ H) : tAsg (tDE g W f) (tDG g is gt) Dn σ H := by
  obtain ⟨μ, env, st, S, E, q⟩ := q
  refine sE S E q fun μ1 H1 d st1 v L S1 E1 r1 h1 => ?_
  cases e : gt d env with
  | none => rw [e] at h1; exact h1.elim
  | some env1 =>
    rw [e] at h1
    exact ⟨μ1, env, st1, d, S1, E1, r1, env1, e, fun σ' E' _ => h1 μ1 H1 σ' Le.refl S1 E'⟩
theorem s_asg {tg e : Expr} {f : DE} {is : List Nat} {gt : DG} (he : PD X g W e f) (hg : PGD X g tg is gt) (hs : swapsWithSole [tg] e pos.line X.env = pure false := by rfl) (hw : swappedStores [tg] e X.env = pure none := by rfl)
    (h1 : (assignEach [tg] X.env).map (·.2) = [assign tg X.env] := by rfl) : PSD X g W (.Assign [tg] e pos) (dAsg f gt) := PS.imp (ps_asg he hg hs hw h1) fun Dn σ H q => asg_ok q
/-- a, b = e1, e2 with plain local names: no tuple is made -/
def dPar (is : List Nat) (fa : DA) : DS := fun env st => (fa env st).s env fun ds st => if ds.length = is.length then .nx ((is.zip ds).foldl (fun env p => env.set p.1 (some p.2)) env) st else .bad
theorem s_par {i j : Nat} {x y : Str} {a b : Expr} {fa : DA} {px py pt : Pos} {kt k2 pt2} (O : Ok X g W k) (ha : PAD X g W [a, b] fa) (hi : X.N[i]? = some x := by rfl) (hj : X.N[j]? = some y := by rfl) (hij : i ≠ j := by decide)
    (hx : X.env.scope.names.lookup x = some .local := by rfl) (hy : X.env.scope.names.lookup y = some .local := by rfl)
    (hw : swappedStores [.Tuple [.Name x px, .Name y py] kt pt] (.Tuple [a, b] k2 pt2) X.env = pure (some [x, y]) := by rfl)
    (hs : swapsWithSole [.Tuple [.Name x px, .Name y py] kt pt] (.Tuple [a, b] k2 pt2) pos.line X.env = pure false := by rfl) :
    PSD X g W (.Assign [.Tuple [.Name x px, .Name y py] kt pt] (.Tuple [a, b] k2 pt2) pos) (dPar [i, j] fa) := PS.imp (ps_par O.calm O.nd hi hj hij hx hy ha hw hs) fun Dn σ H ⟨μ, env, st, S, E, q⟩ => by
  refine sA S E q fun μ1 H1 ds st1 vs L S1 E1 r1 h1 => ?_
  match ds, vs, r1, h1 with
  | [d1, d2], vs, ⟨v1, _, e1, r1, v2, _, e2, r2, e3⟩, h1 =>
    subst e3 e2 e1
    exact ⟨v1, v2, rfl, h1 μ1 H1 _ Le.refl S1 ((E1.set i r1).set j r2)⟩
  | [], _, _, h1 => exact h1.elim
  | [_], _, _, h1 => exact h1.elim
  | _ :: _ :: _ :: _, _, _, h1 => simp at h1; exact h1.elim
theorem s_par3 {i j l : Nat} {x y z : Str} {a b c : Expr} {fa : DA} {px py pz pt : Pos} {kt k2 pt2} (O : Ok X g W k) (ha : PAD X g W [a, b, c] fa) (hi : X.N[i]? = some x := by rfl) (hj : X.N[j]? = some y := by rfl) (hl : X.N[l]? = some z := by rfl) (hij : i ≠ j := by decide) (hil : i ≠ l := by decide) (hjl : j ≠ l := by decide)
    (hx : X.env.scope.names.lookup x = some .local := by rfl) (hy : X.env.scope.names.lookup y = some .local := by rfl) (hz : X.env.scope.names.lookup z = some .local := by rfl)
    (hw : swappedStores [.Tuple [.Name x px, .Name y py, .Name z pz] kt pt] (.Tuple [a, b, c] k2 pt2) X.env = pure (some [x, y, z]) := by rfl)
    (hs : swapsWithSole [.Tuple [.Name x px, .Name y py, .Name z pz] kt pt] (.Tuple [a, b, c] k2 pt2) pos.line X.env = pure false := by rfl) :
    PSD X g W (.Assign [.Tuple [.Name x px, .Name y py, .Name z pz] kt pt] (.Tuple [a, b, c] k2 pt2) pos) (dPar [i, j, l] fa) := PS.imp (ps_par3 O.calm O.nd hi hj hl hij hil hjl hx hy hz ha hw hs) fun Dn σ H ⟨μ, env, st, S, E, q⟩ => by
  refine sA S E q fun μ1 H1 ds st1 vs L S1 E1 r1 h1 => ?_
  match ds, vs, r1, h1 with
  | [d1, d2, d3], vs, ⟨v1, _, e1, r1, v2, _, e2, r2, v3, _, e3, r3, e4⟩, h1 =>
    subst e4 e3 e2 e1
    exact ⟨v1, v2, v3, rfl, h1 μ1 H1 _ Le.refl S1 (((E1.set i r1).set j r2).set l r3)⟩
  | [], _, _, h1 => exact h1.elim
  | [_], _, _, h1 => exact h1.elim
  | [_, _], _, _, h1 => exact h1.elim
  | _ :: _ :: _ :: _ :: _, _, _, h1 => simp at h1; exact h1.elim
/-- name op= e, ints -/
def dAug (i : Nat) (h : D → D → Store → R D) (f : DE) : DS := fun env st => match env[i]? with
  | some (some x) => (f env st).s env fun y st => (h x y st).s env fun z st => .nx (env.set i (some z)) st
  | _ => .bad
theorem s_aug {i : Nat} {x : Str} {e : Expr} {f : DE} {op : Operator} {ti : TIp} {pos' : Pos} {h : D → D → Store → R D} (O : Ok X g W k) (he : PD X g W e f) (ho : PIp X op ti) (hr : RV g W ti h) (hi : X.N[i]? = some x := by rfl) (hx : Loc X.env.scope x := by first | exact .inl rfl | exact .inr rfl)
    (hf : X.fn x = true ∨ X.env.scope.names.lookup x = some .local := by first | exact .inl rfl | exact .inr rfl) : PSD X g W (.AugAssign (.Name x pos') op e pos) (dAug i h f) :=
  PS.imp (ps_aug O.nd hi hx he ho hf) fun Dn σ H ⟨μ, env, st, S, E, q⟩ => by
    unfold dAug at q
    split at q
    · rename_i d hd
      obtain ⟨v, h1, r1⟩ := E.at_ i d hd
      refine ⟨v, h1, sE S E q fun μ1 H1 d2 st1 v2 L1 S1 E1 r2 h2 => ?_⟩
      refine hr σ μ1 H1 st1 d d2 v v2 _ S1 (r1.le L1) r2 ?_
      generalize h d d2 st1 = rr at h2 ⊢
      cases rr with
      | ok z st2 => exact fun μ2 H2 L2 S2 w rw_ => (PostS.le L2 h2) μ2 H2 _ Le.refl S2 ((E1.le L2).set i rw_)
      | ex c st2 => exact fun μ2 H2 L2 S2 => h2 μ2 H2 σ L2 S2 (E1.le L2)
      | bad => exact h2
    · exact q.elim
def aAddI : D → D → Store → R D
  | .int i, .int j, st => .ok (.int (i + j)) st
  | _, _, _ => .bad
theorem rvAddI : RV g W (ipI fun i j => i + j) aAddI := fun σ μ H st x y v u Q S rx ry h => by
  unfold aAddI at h
  split at h
  · exact ⟨_, _, rx, ry, h.here S _ rfl⟩
  · exact h.elim
theorem rvSubI : RV g W (ipI fun i j => i - j) aSub := fun σ μ H st x y v u Q S rx ry h => by
  unfold aSub at h
  split at h
  · exact ⟨_, _, rx, ry, h.here S _ rfl⟩
  · exact h.elim
theorem s_addI {i : Nat} {x : Str} {e : Expr} {f : DE} {pos' : Pos} (O : Ok X g W k) (he : PD X g W e f) (hi : X.N[i]? = some x := by rfl) (hx : Loc X.env.scope x := by first | exact .inl rfl | exact .inr rfl)
    (hf : X.fn x = true ∨ X.env.scope.names.lookup x = some .local := by first | exact .inl rfl | exact .inr rfl) : PSD X g W (.AugAssign (.Name x pos') .Add e pos) (dAug i aAddI f) := s_aug O he ip_add rvAddI hi hx hf
theorem s_subI {i : Nat} {x : Str} {e : Expr} {f : DE} {pos' : Pos} (O : Ok X g W k) (he : PD X g W e f) (hi : X.N[i]? = some x := by rfl) (hx : Loc X.env.scope x := by first | exact .inl rfl | exact .inr rfl)
    (hf : X.fn x = true ∨ X.env.scope.names.lookup x = some .local := by first | exact .inl rfl | exact .inr rfl) : PSD X g W (.AugAssign (.Name x pos') .Sub e pos) (dAug i aSub f) := s_aug O he ip_sub rvSubI hi hx hf
/-- o[i] = e, o a list of the store -/
def setAt (st : Store) (o i d : D) : Option Store := match o, i with
  | .ref n, .int k => match lstAt st n with
    | some ds => (match ixN ds.length k with
      | some j => some (st.set n (.lst (ds.set j d)))
      | none => none)
    | none => none
  | _, _ => none
def dSetL (fe fo fi : DE) : DS := fun env st => (fe env st).s env fun d st => (fo env st).s env fun o st => (fi env st).s env fun i st => match setAt st o i d with
  | some st => .nx env st
  | none => .bad
theorem s_setL {o i e : Expr} {fe fo fi : DE} {pos' : Pos} (he : PD X g W e fe) (ho : PD X g W o fo) (hi : PD X g W i fi)
    (ha : ∀ v, assign (.Subscript o i pos') X.env v = (do
      let ov ← holding [v] (eval o X.env)
      let iv ← holding [v, ov] (eval i X.env)
      standAt pos'
      holding [v, ov, iv] (setItem ov iv v)
      release [v, ov, iv] []) := by intro _; rfl)
    (hs : swapsWithSole [.Subscript o i pos'] e pos.line X.env = pure false := by rfl) (hw : swappedStores [.Subscript o i pos'] e X.env = pure none := by rfl)
    (h1 : (assignEach [.Subscript o i pos'] X.env).map (·.2) = [assign (.Subscript o i pos') X.env] := by rfl) : PSD X g W (.Assign [.Subscript o i pos'] e pos) (dSetL fe fo fi) :=
  PS.imp (ps_asg he (pg_sub ho hi set_list ha) hs hw h1) fun Dn σ H ⟨μ, env, st, S, E, q⟩ => by
    refine sE S E q fun μ1 H1 d st1 v L1 S1 E1 r1 h1 => ?_
    refine sE S1 E1 h1 fun μ2 H2 od st2 ov L2 S2 E2 r2 h2 => ?_
    refine sE S2 E2 h2 fun μ3 H3 id_ st3 iv L3 S3 E3 r3 h3 => ?_
    cases e : setAt st3 od id_ d with
    | none => rw [e] at h3; exact h3.elim
    | some st4 =>
      rw [e] at h3
      unfold setAt at e
      split at e
      · rename_i n kk
        split at e
        · rename_i ds hds
          split at e
          · rename_i j hj
            cases e
            have r2 := r2.le L3
            have r1 := (r1.le L2).le L3
            obtain ⟨a, ea, ha⟩ := r2
            obtain ⟨vs, h4, h5⟩ := S3.at_ n a _ ha (lstAt_eq hds)
            refine ⟨a, vs, kk, j, ea, r3, h4, by rw [← h5.len]; exact hj, ?_⟩
            have hm := List.mem_of_getElem? ha
            have L5 := le_set (o := .lst (vs.set j v)) S3 hm
            exact h3 μ3 _ σ L5 (S3.set ha ⟨_, upd_same, (Reps.set r1 j h5).le L5⟩) (E3.le L5)
          · cases e
        · cases e
      · cases e
end

/-! ### loops -/
section
variable {X : Cx} {g : GC} {W : WX} {k : Nat} {pos : Pos}
/-- behind a turn: k is the rest of the loop -/
def loopK (k : Env → Store → SR) (r : SR) : SR := match r with
  | .nx env st => k env st
  | .ct env st => k env st
  | .bk env st => .nx env st
  | r => r
def whileD (ft : DT) (fb : DS) : Nat → Env → Store → SR
  | 0, _, _ => .bad
  | n + 1, env, st => (ft env st).s env fun b st => if b = true then loopK (whileD ft fb n) (fb env st) else .nx env st
def dWhile (ft : DT) (fb : DS) : DS := whileD ft fb 100000000
theorem s_while {c : Expr} {body : List Stmt} {ft : DT} {fb : DS} (O : Ok X g W k) (hc : PTD X g W c ft) (hb : PSsD X g W body fb) : PSD X g W (.While c body [] pos) (dWhile ft fb) :=
  PS.imp (ps_while O.hp hc hb) fun Dn σ H ⟨μ, env, st, S, E, q⟩ => by
    refine ⟨fun m σ H => ∃ μ env st, RelS g μ H st ∧ RelE g μ H env σ ∧ PostS g W μ H (whileD ft fb m env st) Dn, ⟨100000000, μ, env, st, S, E, q⟩, ?_⟩
    rintro m σ H ⟨μ, env, st, S, E, q⟩
    cases m with
    | zero => exact q.elim
    | succ m =>
      have q : PostS g W μ H ((ft env st).s env fun b st => if b = true then loopK (whileD ft fb m) (fb env st) else .nx env st) Dn := q
      refine sT S E q fun μ1 H1 b st1 L S1 E1 h1 => ?_
      cases b with
      | false =>
        rw [if_neg Bool.false_ne_true] at h1 ⊢
        exact h1 μ1 H1 σ Le.refl S1 E1
      | true =>
        rw [if_pos rfl] at h1 ⊢
        refine ⟨fun σ' H' => ∃ μ env st, RelS g μ H' st ∧ RelE g μ H' env σ' ∧ PostS g W μ H' (whileD ft fb m env st) Dn, fun σ' H' n => ⟨m, Nat.lt_succ_self m, n⟩, μ1, env, st1, S1, E1, ?_⟩
        generalize fb env st1 = r at h1 ⊢
        cases r with
        | nx env2 st2 => exact fun μ2 H2 σ2 L2 S2 E2 => ⟨μ2, env2, st2, S2, E2, PostS.le L2 h1⟩
        | ct env2 st2 => exact fun μ2 H2 σ2 L2 S2 E2 => ⟨μ2, env2, st2, S2, E2, PostS.le L2 h1⟩
        | bk env2 st2 => exact h1
        | rt d st2 => exact h1
        | ex c env2 st2 => exact h1
        | bad => exact h1
end
end G

namespace G
open PySem L2
/-! ### the very same data -/
mutual
def D.same : D → D → Bool
  | .non, .non => true
  | .bl a, .bl b => a == b
  | .int i, .int j => i == j
  | .str x, .str y => x == y
  | .lst xs, .lst ys => D.sames xs ys
  | .tup xs, .tup ys => D.sames xs ys
  | .dic ks xs, .dic ls ys => decide (ks = ls) && D.sames xs ys
  | .ref n, .ref m => n == m
  | .fn x, .fn y => x == y
  | .lam n, .lam m => n == m
  | .scr x, .scr y => x == y
  | _, _ => false
def D.sames : List D → List D → Bool
  | [], [] => true
  | x :: xs, y :: ys => D.same x y && D.sames xs ys
  | _, _ => false
end
mutual
theorem same_eq : ∀ (d e : D), D.same d e = true → d = e
  | .non, e, h => by cases e <;> first | rfl | cases h
  | .bl a, e, h => by cases e <;> first | (rename_i b; have h : (a == b) = true := h; rw [beq_iff_eq.mp h]) | cases h
  | .int a, e, h => by cases e <;> first | (rename_i b; have h : (a == b) = true := h; rw [beq_iff_eq.mp h]) | cases h
  | .str a, e, h => by cases e <;> first | (rename_i b; have h : (a == b) = true := h; rw [beq_iff_eq.mp h]) | cases h
  | .ref a, e, h => by cases e <;> first | (rename_i b; have h : (a == b) = true := h; rw [beq_iff_eq.mp h]) | cases h
  | .fn a, e, h => by cases e <;> first | (rename_i b; have h : (a == b) = true := h; rw [beq_iff_eq.mp h]) | cases h
  | .lam a, e, h => by cases e <;> first | (rename_i b; have h : (a == b) = true := h; rw [beq_iff_eq.mp h]) | cases h
  | .scr a, e, h => by cases e <;> first | (rename_i b; have h : (a == b) = true := h; rw [beq_iff_eq.mp h]) | cases h
  | .lst xs, e, h => by cases e <;> first | (rename_i ys; rw [sames_eq xs ys h]) | cases h
  | .tup xs, e, h => by cases e <;> first | (rename_i ys; rw [sames_eq xs ys h]) | cases h
  | .dic ks xs, e, h => by
    cases e <;> first
      | (rename_i ls ys
         have h : (decide (ks = ls) && D.sames xs ys) = true := h
         rw [Bool.and_eq_true, decide_eq_true_eq] at h
         rw [h.1, sames_eq xs ys h.2])
      | cases h
theorem sames_eq : ∀ (ds es : List D), D.sames ds es = true → ds = es
  | [], [], _ => rfl
  | [], _ :: _, h => nomatch h
  | _ :: _, [], h => nomatch h
  | d :: ds, e :: es, h => by
    have h : (D.same d e && D.sames ds es) = true := h
    rw [Bool.and_eq_true] at h
    rw [same_eq d e h.1, sames_eq ds es h.2]
end
mutual
theorem same_refl : ∀ (d : D), D.same d d = true
  | .non => rfl
  | .bl a => beq_self_eq_true a
  | .int a => beq_self_eq_true a
  | .str a => beq_self_eq_true a
  | .ref a => beq_self_eq_true a
  | .fn a => beq_self_eq_true a
  | .lam a => beq_self_eq_true a
  | .scr a => beq_self_eq_true a
  | .lst xs => sames_refl xs
  | .tup xs => sames_refl xs
  | .dic ks xs => by
    show (decide (ks = ks) && D.sames xs xs) = true
    rw [sames_refl xs, decide_eq_true rfl] <;> rfl
theorem sames_refl : ∀ (ds : List D), D.sames ds ds = true
  | [] => rfl
  | d :: ds => by
    show (D.same d d && D.sames ds ds) = true
    rw [same_refl d, sames_refl ds] <;> rfl
end

/-! ### what is walked -/
/-- a list of the store is walked: it may not change meanwhile -/
abbrev Gd := Option (Nat × List D)
def gdOk (gd : Gd) (st : Store) : Bool := match gd with
  | none => true
  | some (n, ds) => match lstAt st n with
    | some es => D.sames es ds
    | none => false
def ItOk (g : GC) (J : It) (ds : List D) (gd : Gd) (μ : Mp) (H : Hp) : Prop :=
  ∀ μ' H' st', Lw μ H μ' H' → RelS g μ' H' st' → gdOk gd st' = true →
    (∀ (i : Nat) d, ds[i]? = some d → J.go i H' ∧ ∀ x H'', J.yld i H' x H'' → Le μ' H' μ' H'' ∧ RelS g μ' H'' st' ∧ Rep g μ' H'' d x) ∧ J.stop ds.length H'
abbrev DI := Env → Store → R (List D × Gd)
def tDI (g : GC) (W : WX) (f : DI) : TI := fun σ H R => ∃ μ env st, RelS g μ H st ∧ RelE g μ H env σ ∧ Post g W σ μ H (f env st) (fun μ' H' p _ => ∀ J, ItOk g J p.1 p.2 μ' H' → R J H')
def PID (X : Cx) (g : GC) (W : WX) (tg iter : Expr) (f : DI) : Prop := PI X tg iter (tDI g W f)
theorem PI.imp {X : Cx} {tg e : Expr} {t t' : TI} (h : PI X tg e t) (hi : ∀ σ H Q, t' σ H Q → t σ H Q) : PI X tg e t' := ⟨fun pins s σ H Q I q => h.run pins s σ H Q I (hi _ _ _ q)⟩
section
variable {X : Cx} {g : GC} {W : WX} {k : Nat} {pos : Pos} {tg : Expr}
/-- a list or a tuple -/
def iSeq (K : PySem.W.Frag) (tl : TE) : TI := fun σ H R => tl σ H fun x H1 => ∃ a, x = .ref a ∧ (((∃ xs, SqL K H1 a xs) ∧ R (Itl K a) H1) ∨ ((∃ xs, SqT K H1 a xs) ∧ R (Itt K a) H1))
theorem fresh_fp {pins : List (Addr × Obj)} {σ : L2.St} {H : Hp} {s : Shared} (I : Inv X pins σ H s) : ∀ b ∈ [s.heap.objs.size], FpOk X pins H b := fun b hb => by
  rw [List.mem_singleton.mp hb]
  exact I.fpOk (Nat.le_refl _) (I.hok.fresh (Nat.le_refl _))
theorem pi_seq {l : Expr} {tl : TE} (hl : PE X l tl) : PI X tg l (iSeq X.K tl) := by
  constructor
  intro pins s₀ σ H R I h
  refine thn (hl.run pins s₀ σ H _ I h) fun v s₂ hv => ?_
  obtain ⟨x, H2, I2, rx, a, ea, h2⟩ := hv
  subst ea
  obtain rfl : v = Value.ref a := rx
  have kp : ∀ o₂ : Obj, Inv X pins σ H2 { s₂ with heap := s₂.heap.push o₂ } := fun o₂ => I2.kept (t' := s₂.toks) fun c u e => Heap.get?_push_of_some _ e
  rcases h2 with ⟨⟨xs, hx⟩, hR⟩ | ⟨⟨xs, hx⟩, hR⟩
  · obtain ⟨vs, _, pl, _⟩ := I2.list hx
    exact wpAny_pyIter_list pl.isList ⟨_, [s₂.heap.objs.size], _, _, H2, rfl, kp _, turn_list a _, ⟨_, Heap.get?_push_size _ rfl, rfl, rfl⟩, fresh_fp I2, hR⟩
  · obtain ⟨vs, _, pt, _⟩ := I2.tuple hx
    exact wpAny_pyIter_tuple (t := a) (items := vs.toArray) pt ⟨_, [s₂.heap.objs.size], _, _, H2, rfl, kp _, turn_tuple a _, ⟨_, Heap.get?_push_size _ rfl, rfl, rfl⟩, fresh_fp I2, hR⟩
def gdOf (st : Store) : D → Option (List D × Gd)
  | .tup ds => some (ds, none)
  | .lst ds => some (ds, none)
  | .scr ns => some (ns.map .int, none)
  | .ref n => (lstAt st n).map fun ds => (ds, some (n, ds))
  | _ => none
def dIt (f : DE) : DI := fun env st => (f env st).bind fun d st => match gdOf st d with
  | some p => .ok p st
  | none => .bad
theorem sql_inj {K : PySem.W.Frag} {H : Hp} {a : Addr} {xs ys : List V} (h : H a = some (.lst xs)) (h' : Rd H a (.lst ys)) : xs = ys := by
  rcases h' with h' | ⟨o, h'⟩
  · rw [h] at h'; cases h'; rfl
  · rw [h] at h'; cases h'
/-- a list that may be told by the written part too: the list that it is -/
theorem itl_ok {J : It} {K : PySem.W.Frag} {a : Addr} (e : J = Itl K a) {ds : List D} {gd : Gd} {μ : Mp} {H : Hp} (hK : g.K = K)
    (h : ∀ μ' H' st', Lw μ H μ' H' → RelS g μ' H' st' → gdOk gd st' = true → ∃ vs, SqL K H' a vs ∧ Reps g μ' H' ds vs) : ItOk g J ds gd μ H := by
  subst e
  intro μ' H' st' L S hg
  obtain ⟨vs, h1, h2⟩ := h μ' H' st' L S hg
  refine ⟨fun i d hd => ?_, ⟨vs, h1, by rw [h2.len]; exact Nat.le_refl _⟩⟩
  obtain ⟨v, h3, h4⟩ := h2.get hd
  refine ⟨⟨vs, v, h1, h3⟩, fun x H'' y => ?_⟩
  obtain ⟨e, y⟩ := y
  subst e
  have := y vs h1
  rw [h3] at this
  cases this
  exact ⟨Le.refl, S, h4⟩
theorem itt_ok {J : It} {K : PySem.W.Frag} {a : Addr} (e : J = Itt K a) {ds : List D} {gd : Gd} {μ : Mp} {H : Hp}
    (h : ∀ μ' H' st', Lw μ H μ' H' → RelS g μ' H' st' → gdOk gd st' = true → ∃ vs, SqT K H' a vs ∧ Reps g μ' H' ds vs) : ItOk g J ds gd μ H := by
  subst e
  intro μ' H' st' L S hg
  obtain ⟨vs, h1, h2⟩ := h μ' H' st' L S hg
  refine ⟨fun i d hd => ?_, ⟨vs, h1, by rw [h2.len]; exact Nat.le_refl _⟩⟩
  obtain ⟨v, h3, h4⟩ := h2.get hd
  refine ⟨⟨vs, v, h1, h3⟩, fun x H'' y => ?_⟩
  obtain ⟨e, y⟩ := y
  subst e
  have := y vs h1
  rw [h3] at this
  cases this
  exact ⟨Le.refl, S, h4⟩
theorem i_seq {l : Expr} {f : DE} (O : Ok X g W k) (h : PD X g W l f) : PID X g W tg l (dIt f) := PI.imp (pi_seq h) fun σ H R ⟨μ, env, st, S, E, q⟩ => by
  refine bindE S E q fun μ1 H1 d st1 v L1 S1 E1 r1 h1 => ?_
  rw [O.hK]
  cases d with
  | tup ds =>
    obtain ⟨a, vs, e, h2, r2⟩ := seqT_ok (ds := ds) r1 rfl
    refine ⟨a, e, .inr ⟨⟨vs, h2⟩, h1.here S1 _ (itt_ok rfl fun μ' H' st' L S _ => ?_)⟩⟩
    obtain ⟨a', vs', e', h3, r3⟩ := seqT_ok (ds := ds) (r1.lw L) rfl
    rw [e] at e'
    cases e'
    exact ⟨vs', h3, r3⟩
  | lst ds =>
    obtain ⟨a, vs, e, h2, r2⟩ := seqL_ok S1 (ds := ds) r1 rfl
    refine ⟨a, e, .inl ⟨⟨vs, h2⟩, h1.here S1 _ (itl_ok rfl rfl fun μ' H' st' L S _ => ?_)⟩⟩
    obtain ⟨a', vs', e', h3, r3⟩ := seqL_ok S (ds := ds) (r1.lw L) rfl
    rw [e] at e'
    cases e'
    exact ⟨vs', h3, r3⟩
  | scr ns =>
    obtain ⟨a, vs, e, h2, r2⟩ := seqL_ok S1 (ds := ns.map .int) r1 rfl
    refine ⟨a, e, .inl ⟨⟨vs, h2⟩, h1.here S1 _ (itl_ok rfl rfl fun μ' H' st' L S _ => ?_)⟩⟩
    obtain ⟨a', vs', e', h3, r3⟩ := seqL_ok S (ds := ns.map .int) (r1.lw L) rfl
    rw [e] at e'
    cases e'
    exact ⟨vs', h3, r3⟩
  | ref n =>
    cases hn : lstAt st1 n with
    | none => simp only [gdOf, hn] at h1; exact h1.elim
    | some ds =>
      simp only [gdOf, hn] at h1
      obtain ⟨a, vs, e, h2, r2⟩ := seqL_ok S1 (ds := ds) r1 hn
      refine ⟨a, e, .inl ⟨⟨vs, h2⟩, h1.here S1 _ (itl_ok rfl rfl fun μ' H' st' L S hg => ?_)⟩⟩
      have hs : lstAt st' n = some ds := by
        have hg : (match lstAt st' n with
          | some es => D.sames es ds
          | none => false) = true := hg
        cases q : lstAt st' n with
        | none => rw [q] at hg; cases hg
        | some es => rw [q] at hg; rw [sames_eq _ _ hg]
      obtain ⟨a', vs', e', h3, r3⟩ := seqL_ok S (ds := ds) (r1.lw L) hs
      rw [e] at e'
      cases e'
      exact ⟨vs', h3, r3⟩
  | _ => exact h1.elim
/-- range -/
def rangeD (lo hi : Int) : List D := (List.range (hi - lo).toNat).map fun i => .int (lo + (i : Nat))
def bnd (i : Int) : Bool := decide (-4611686018427387904 ≤ i) && decide (i < 4611686018427387904)
theorem bnd_ok {i : Int} (h : bnd i = true) : -(2 ^ 62) ≤ i ∧ i < 2 ^ 62 := by
  unfold bnd at h
  rw [Bool.and_eq_true, decide_eq_true_eq, decide_eq_true_eq] at h
  exact h
def dRng1 (f : DE) : DI := fun env st => (f env st).bind fun d st => match d with
  | .int j => if bnd j = true then .ok (rangeD 0 j, none) st else .bad
  | _ => .bad
def dRng2 (f h : DE) : DI := fun env st => (f env st).bind fun d st => (h env st).bind fun e st => match d, e with
  | .int i, .int j => if bnd i = true ∧ bnd j = true then .ok (rangeD i j, none) st else .bad
  | _, _ => .bad
theorem itr_ok {lo hi : Int} {μ : Mp} {H : Hp} : ItOk g (Itr lo (hi - lo).toNat) (rangeD lo hi) none μ H := by
  intro μ' H' st' L S _
  refine ⟨fun i d hd => ?_, by show (hi - lo).toNat ≤ (rangeD lo hi).length; unfold rangeD; simp⟩
  unfold rangeD at hd
  rw [List.getElem?_map] at hd
  by_cases hi' : i < (hi - lo).toNat
  · rw [List.getElem?_range hi'] at hd
    cases hd
    refine ⟨hi', fun x H'' y => ?_⟩
    obtain ⟨e, y⟩ := y
    subst e y
    exact ⟨Le.refl, S, rfl⟩
  · rw [List.getElem?_eq_none (by simpa using hi')] at hd
    cases hd
theorem i_range1 {a : Expr} {f : DE} {p : Pos} (hm : X.mg "range" = none) (ha : PD X g W a f) (hg : Gl X "range" := by rfl) (hs : starEach [a] X.env = [(false, eval a X.env)] := by rfl) : PID X g W tg (.Call (.Name "range" p) [a] [] pos) (dRng1 f) :=
  PI.imp (pi_range1 hg hm (L2.pa_cons ha L2.pa_nil hs) hs) fun σ H R₀ ⟨μ, env, st, S, E, q⟩ => by
    refine bindE S E q fun μ1 H1 d st1 v L1 S1 E1 r1 h1 => ?_
    cases d with
    | int j =>
      have h1 : Post g W σ μ1 H1 (if bnd j = true then .ok (rangeD 0 j, none) st1 else .bad) _ := h1
      split at h1
      · rename_i hj
        refine ⟨j, by rw [show v = V.int j from r1], (bnd_ok hj).1, (bnd_ok hj).2, h1.here S1 _ ?_⟩
        have := itr_ok (g := g) (lo := 0) (hi := j) (μ := μ1) (H := H1)
        rw [Int.sub_zero] at this
        exact this
      · exact h1.elim
    | _ => exact h1.elim
theorem i_range2 {a b : Expr} {f h : DE} {p : Pos} (hm : X.mg "range" = none) (ha : PD X g W a f) (hb : PD X g W b h) (hg : Gl X "range" := by rfl) (hs : starEach [a, b] X.env = [(false, eval a X.env), (false, eval b X.env)] := by rfl) (hs2 : starEach [b] X.env = [(false, eval b X.env)] := by rfl) :
    PID X g W tg (.Call (.Name "range" p) [a, b] [] pos) (dRng2 f h) :=
  PI.imp (pi_range2 hg hm (L2.pa_cons ha (L2.pa_cons hb L2.pa_nil hs2) (by rw [hs, hs2])) hs hs2) fun σ H R₀ ⟨μ, env, st, S, E, q⟩ => by
    refine bindE S E q fun μ1 H1 d st1 v L1 S1 E1 r1 h1 => ?_
    refine bindE S1 E1 h1 fun μ2 H2 d2 st2 v2 L2 S2 E2 r2 h2 => ?_
    have r1 := r1.le L2
    cases d with
    | int i =>
      cases d2 with
      | int j =>
        have h2 : Post g W σ μ2 H2 (if bnd i = true ∧ bnd j = true then .ok (rangeD i j, none) st2 else .bad) _ := h2
        split at h2
        · rename_i hj
          exact ⟨i, j, by rw [show v = V.int i from r1, show v2 = V.int j from r2], ⟨(bnd_ok hj.1).1, (bnd_ok hj.1).2, (bnd_ok hj.2).1, (bnd_ok hj.2).2⟩, h2.here S2 _ itr_ok⟩
        · exact h2.elim
      | _ => exact h2.elim
    | _ => exact h2.elim
/-! ### for -/
def forD (gt : DG) (fb : DS) (gd : Gd) : List D → Env → Store → SR
  | [], env, st => if gdOk gd st = true then .nx env st else .bad
  | d :: ds, env, st => if gdOk gd st = true then (match gt d env with
    | none => .bad
    | some env => loopK (forD gt fb gd ds) (fb env st)) else .bad
def dFor (fi : DI) (gt : DG) (fb : DS) : DS := fun env st => (fi env st).s env fun p st => forD gt fb p.2 p.1 env st
theorem sI {f : DI} {q : List D × Gd → Store → SR} {μ : Mp} {H : Hp} {env : Env} {σ : L2.St} {st : Store} {Dn : Ends} (S : RelS g μ H st) (E : RelE g μ H env σ) (h : PostS g W μ H ((f env st).s env q) Dn) {Rest : It → Hp → Prop}
    (hk : ∀ μ1 H1 p st1 J, Le μ H μ1 H1 → RelS g μ1 H1 st1 → RelE g μ1 H1 env σ → ItOk g J p.1 p.2 μ1 H1 → PostS g W μ1 H1 (q p st1) Dn → Rest J H1) : tDI g W f σ H Rest := by
  refine ⟨μ, env, st, S, E, ?_⟩
  generalize f env st = r at h ⊢
  cases r with
  | ok d st1 => exact fun μ1 H1 L S1 J hJ => hk μ1 H1 d st1 J L S1 (E.le L) hJ (PostS.le L h)
  | ex c st1 => exact fun μ1 H1 L S1 => h μ1 H1 σ L S1 (E.le L)
  | bad => exact h
theorem ItOk.le {J : It} {ds : List D} {gd : Gd} {μ μ' : Mp} {H H' : Hp} (L : Lw μ H μ' H') (h : ItOk g J ds gd μ H) : ItOk g J ds gd μ' H' := fun μ2 H2 st2 L2 => h μ2 H2 st2 (L.trans L2)
theorem s_for {iter : Expr} {body : List Stmt} {fi : DI} {is : List Nat} {gt : DG} {fb : DS} (O : Ok X g W k) (hi : PID X g W tg iter fi) (hg : PGD X g tg is gt) (hb : PSsD X g W body fb) (hs : ∀ x, foldedSetIterable iter X.env x = pure x := by intro _; rfl) : PSD X g W (.For tg iter body [] pos) (dFor fi gt fb) :=
  PS.imp (ps_for O.hp O.calm hi hg hb hs) fun Dn σ H ⟨μ, env, st, S, E, q⟩ => by
    refine sI S E q fun μ1 H1 p st1 J L1 S1 E1 hJ h1 => ?_
    obtain ⟨ds, gd⟩ := p
    refine ⟨fun i m σ H => m = ds.length - i ∧ i ≤ ds.length ∧ ∃ μ env st, RelS g μ H st ∧ RelE g μ H env σ ∧ ItOk g J ds gd μ H ∧ PostS g W μ H (forD gt fb gd (ds.drop i) env st) Dn,
      ⟨ds.length, by simp, Nat.zero_le _, μ1, env, st1, S1, E1, hJ, h1⟩, ?_⟩
    rintro i m σ H ⟨rfl, hi, μ, env, st, S, E, hJ, q⟩
    by_cases hlt : i < ds.length
    · rw [List.drop_eq_getElem_cons hlt] at q
      have q : PostS g W μ H (if gdOk gd st = true then (match gt ds[i] env with
        | none => .bad
        | some env => loopK (forD gt fb gd (ds.drop (i + 1))) (fb env st)) else .bad) Dn := q
      split at q
      · rename_i hgd
        obtain ⟨hgo, hy⟩ := (hJ μ H st Lw.refl S hgd).1 i ds[i] (List.getElem?_eq_getElem hlt)
        refine .inr ⟨hgo, fun σ' H' => ds.length - (i + 1) = ds.length - (i + 1) ∧ i + 1 ≤ ds.length ∧ ∃ μ env st, RelS g μ H' st ∧ RelE g μ H' env σ' ∧ ItOk g J ds gd μ H' ∧ PostS g W μ H' (forD gt fb gd (ds.drop (i + 1)) env st) Dn, fun σ' H' w => ⟨ds.length - (i + 1), by omega, w⟩, fun x H' y => ?_⟩
        obtain ⟨L2, S2, r2⟩ := hy x H' y
        cases e : gt ds[i] env with
        | none => rw [e] at q; exact q.elim
        | some env2 =>
          rw [e] at q
          refine ⟨μ, env, st, ds[i], S2, E.le L2, r2, env2, e, fun σ2 E2 _ => ⟨μ, env2, st, S2, E2, ?_⟩⟩
          have q : PostS g W μ H' (loopK (forD gt fb gd (ds.drop (i + 1))) (fb env2 st)) Dn := PostS.le L2 q
          generalize fb env2 st = r at q ⊢
          cases r with
          | nx env3 st3 => exact fun μ3 H3 σ3 L3 S3 E3 => ⟨rfl, hlt, μ3, env3, st3, S3, E3, hJ.le (L2.trans L3).toLw, PostS.le L3 q⟩
          | ct env3 st3 => exact fun μ3 H3 σ3 L3 S3 E3 => ⟨rfl, hlt, μ3, env3, st3, S3, E3, hJ.le (L2.trans L3).toLw, PostS.le L3 q⟩
          | bk env3 st3 => exact q
          | rt d st3 => exact q
          | ex c env3 st3 => exact q
          | bad => exact q
      · exact q.elim
    · have hi2 : i = ds.length := by omega
      subst hi2
      rw [List.drop_length] at q
      have q : PostS g W μ H (if gdOk gd st = true then .nx env st else .bad) Dn := q
      split at q
      · rename_i hgd
        exact .inl ⟨(hJ μ H st Lw.refl S hgd).2, q μ H σ Le.refl S E⟩
      · exact q.elim

/-! ### comprehensions -/
def wipeE (env : Env) : List Nat → Env
  | [] => env
  | v :: vs => (wipeE env vs).set v none
theorem RelE.wipe {μ : Mp} {H : Hp} {env : Env} {σ : L2.St} (E : RelE g μ H env σ) : ∀ vs, RelE g μ H (wipeE env vs) (L2.wipe σ vs)
  | [] => E
  | v :: vs => by
    have ih := E.wipe vs
    refine ⟨by show ((wipeE env vs).set v none).length = ((L2.wipe σ vs).set v none).length; rw [List.length_set, List.length_set, ih.len], fun i d h => ?_⟩
    have h : ((wipeE env vs).set v none)[i]? = some (some d) := h
    show ∃ w, ((L2.wipe σ vs).set v none)[i]? = some (some w) ∧ _
    by_cases hv : v = i
    · subst hv
      by_cases hl : v < (wipeE env vs).length
      · rw [List.getElem?_set_self hl] at h; cases h
      · rw [List.getElem?_eq_none (by simpa using hl)] at h; cases h
    · rw [List.getElem?_set_ne hv] at h
      obtain ⟨w, h1, h2⟩ := ih.at_ i d h
      exact ⟨w, by rw [List.getElem?_set_ne hv]; exact h1, h2⟩
end
end G

namespace G
open PySem L2
/-! ### a list that is being made -/
def Mp.hide (μ : Mp) (D : Addr) : Mp := ⟨μ.m, D :: μ.h⟩
section
variable {g : GC} {μ : Mp} {m : List Addr} {h : List Addr} {H H' : Hp} {st : Store} {p : Addr} {o : HO}
/-- it is new -/
theorem lw_hide (S : RelS g μ H st) (hp : H p = none) : Lw μ H (μ.hide p) (upd H p o) := ⟨fun _ _ q => q, fun a u n r t => ⟨⟨n.1, fun z => by
  rcases List.mem_cons.mp z with z | z
  · obtain ⟨x, e⟩ := Rd.some r
    rw [z, hp] at e; cases e
  · exact n.2 z⟩, Rd.upd_ne r fun z => by
  obtain ⟨x, e⟩ := Rd.some r
  rw [z, hp] at e; cases e⟩, fun a vs _ q => by rw [L2.upd_ne (ne_of_none q hp)]; exact q⟩
theorem RelS.hide {xs : List V} (S : RelS g μ H st) (hp : H p = none) : RelS g (μ.hide p) (upd H p (.lst xs)) st := ⟨S.len, S.nd, fun a ha => by
  rcases List.mem_cons.mp ha with z | z
  · rw [z]
    exact ⟨S.fresh hp, _, upd_same⟩
  · exact S.hid_new hp a z, fun n a so h1 h2 => by
  have r := S.at_ n a so h1 h2
  obtain ⟨u, e, _⟩ := r.there
  exact r.move (lw_hide S hp) ((ext_new hp a u e).trans e.symm), S.tabs.ext (ext_new hp)⟩
/-- it is known from now on -/
theorem lw_show : Lw (μ.hide p) H μ H := ⟨fun _ _ q => q, fun a u n r _ => ⟨⟨n.1, fun z => n.2 (List.mem_cons_of_mem _ z)⟩, r⟩, fun _ _ _ q => q⟩
theorem RelS.show (S : RelS g (μ.hide p) H st) : RelS g μ H st := ⟨S.len, S.nd, fun a ha => S.hid a (List.mem_cons_of_mem _ ha), fun n a so h1 h2 => (S.at_ n a so h1 h2).move lw_show rfl, S.tabs⟩
/-- it grows -/
theorem le_grow (S : RelS g (μ.hide p) H st) : Lw (μ.hide p) H (μ.hide p) (upd H p o) := ⟨fun _ _ q => q, fun a u n r _ => ⟨n, Rd.upd_ne r fun z => n.2 (by rw [z]; exact List.mem_cons_self)⟩, fun a vs n q => by
  rw [L2.upd_ne fun z => n.2 (by rw [z]; exact List.mem_cons_self)]
  exact q⟩
theorem RelS.grow {xs ys : List V} (S : RelS g (μ.hide p) H st) (hp : H p = some (.lst xs)) : RelS g (μ.hide p) (upd H p (.lst ys)) st := ⟨S.len, S.nd, fun a ha => by
  obtain ⟨n, u, e⟩ := S.hid a ha
  by_cases z : a = p
  · rw [z] at n ⊢
    exact ⟨n, _, upd_same⟩
  · exact ⟨n, u, (L2.upd_ne z).trans e⟩, fun n a so h1 h2 => (S.at_ n a so h1 h2).move (le_grow S) (L2.upd_ne fun z => (S.hid p List.mem_cons_self).1 (by rw [← z]; exact List.mem_of_getElem? h1)), fun q hq => by
  obtain ⟨ps, h1, h2, h3⟩ := S.tabs q hq
  refine ⟨ps, (L2.upd_ne fun z => by rw [z, hp] at h1; cases h1).trans h1, h2, fun pos cv hc => ?_⟩
  obtain ⟨c, e1, e2⟩ := h3 pos cv hc
  exact ⟨c, e1, (L2.upd_ne fun z => by rw [z, hp] at e2; cases e2).trans e2⟩⟩
/-- from the start on: all but p -/
theorem le_over {μ0 : Mp} {H0 : Hp} (hh : h = μ0.h) (n0 : H0 p = none) {m' : List Addr} (L : Le μ0 H0 ⟨m, h⟩ H) (L' : Lw ⟨m, p :: h⟩ H ⟨m', p :: h⟩ H') (hk : ∀ a ∈ h, H' a = H a) : Le μ0 H0 ⟨m', h⟩ H' := by
  have np : ∀ a u, Rd H0 a u → a ≠ p := fun a u r z => by
    obtain ⟨x, e⟩ := Rd.some r
    rw [z, n0] at e; cases e
  refine ⟨⟨fun n a q => L'.pre n a (L.pre n a q), fun a u n r t => ?_, fun a vs n q => ?_⟩, hh, fun a ha => (hk a (by rw [hh]; exact ha)).trans (L.hk a ha)⟩
  · obtain ⟨h1, h2⟩ := L.keep a u n r t
    obtain ⟨h3, h4⟩ := L'.keep a u ⟨h1.1, fun z => (List.mem_cons.mp z).elim (np a u r) h1.2⟩ h2 t
    exact ⟨⟨h3.1, fun z => h3.2 (List.mem_cons_of_mem _ z)⟩, h4⟩
  · obtain ⟨h1, _⟩ := L.keep a _ n (.inl q) (by intro _ z; cases z)
    exact L'.keepL a vs ⟨h1.1, fun z => (List.mem_cons.mp z).elim (np a _ (.inl q)) h1.2⟩ (L.keepL a vs n q)
end

section
variable {g : GC} {m h : List Addr} {H : Hp} {st : Store} {D : Addr} {acc : List G.D} {vacc : List V}
/-- it comes into the store -/
theorem lw_adopt : Lw ⟨m, D :: h⟩ H ⟨m ++ [D], h⟩ H := by
  refine ⟨fun n a q => ?_, fun a u n r _ => ⟨⟨fun z => ?_, fun z => n.2 (List.mem_cons_of_mem _ z)⟩, r⟩, fun _ _ _ q => q⟩
  · show (m ++ [D])[n]? = some a
    rw [List.getElem?_append_left (List.getElem?_eq_some_iff.mp q).1]
    exact q
  · rcases List.mem_append.mp z with z | z
    · exact n.1 z
    · exact n.2 (by rw [List.mem_singleton.mp z]; exact List.mem_cons_self)
theorem RelS.adopt (S : RelS g ⟨m, D :: h⟩ H st) (hD : H D = some (.lst vacc)) (r : Reps g ⟨m, D :: h⟩ H acc vacc) (n : D ∉ h) : RelS g ⟨m ++ [D], h⟩ H (st ++ [.lst acc]) := by
  have nm : D ∉ m := (S.hid D List.mem_cons_self).1
  refine ⟨by simp [S.len], ?_, fun a ha => ?_, fun i a so h1 h2 => ?_, S.tabs⟩
  · show (m ++ [D]).Nodup
    rw [List.nodup_append]
    exact ⟨S.nd, by simp, fun x hx y hy z => nm (by rw [List.mem_singleton.mp hy] at z; rw [← z]; exact hx)⟩
  · obtain ⟨n1, u, e⟩ := S.hid a (List.mem_cons_of_mem _ ha)
    refine ⟨fun z => ?_, u, e⟩
    rcases List.mem_append.mp z with z | z
    · exact n1 z
    · exact n (by rw [← List.mem_singleton.mp z]; exact ha)
  · have h1 : (m ++ [D])[i]? = some a := h1
    have sl : m.length = st.length := S.len
    by_cases hi : i < m.length
    · rw [List.getElem?_append_left hi] at h1
      rw [List.getElem?_append_left (by rw [← sl]; exact hi)] at h2
      exact (S.at_ i a so h1 h2).move lw_adopt rfl
    · have hi2 : i = m.length := by
        have := (List.getElem?_eq_some_iff.mp h1).1
        simp at this
        omega
      subst hi2
      simp at h1
      rw [sl] at h2
      simp at h2
      subst h1 h2
      exact ⟨vacc, hD, r.lw lw_adopt⟩
theorem le_adopt {μ0 : Mp} {H0 : Hp} (n0 : H0 D = none) (L : Le μ0 H0 ⟨m, h⟩ H) : Le μ0 H0 ⟨m ++ [D], h⟩ H := by
  refine ⟨⟨fun n a q => ?_, fun a u n r t => ?_, L.keepL⟩, L.hh, L.hk⟩
  · have := L.pre n a q
    show (m ++ [D])[n]? = some a
    rw [List.getElem?_append_left (List.getElem?_eq_some_iff.mp this).1]
    exact this
  · obtain ⟨h1, h2⟩ := L.keep a u n r t
    refine ⟨⟨fun z => ?_, h1.2⟩, h2⟩
    rcases List.mem_append.mp z with z | z
    · exact h1.1 z
    · obtain ⟨x, e⟩ := Rd.some r
      rw [List.mem_singleton.mp z, n0] at e
      cases e
end
/-! ### comprehensions -/
def R.b {α β : Type} (r : R α) (k : α → Store → R β) : R β := match r with
  | .ok a st => k a st
  | _ => .bad
@[simp] theorem R.b_ok {α β : Type} (a : α) (st : Store) (k : α → Store → R β) : (R.ok a st).b k = k a st := rfl
theorem R.b_b {α β γ : Type} (r : R α) (k : α → Store → R β) (k' : β → Store → R γ) : (r.b k).b k' = r.b fun a st => (k a st).b k' := by
  cases r <;> rfl
abbrev W0 : WX := fun _ _ _ _ => False
/-- the items that a comprehension makes -/
def lcD (gt : DG) (ft : DT) (fe : DE) (gd : Gd) : List D → Env → Store → R (List D)
  | [], _, st => if gdOk gd st = true then .ok [] st else .bad
  | d :: ds, env, st => if gdOk gd st = true then (match gt d env with
    | none => .bad
    | some env1 => (ft env1 st).b fun b st => if b = true then (fe env1 st).b fun x st => (lcD gt ft fe gd ds env st).b fun xs st => .ok (x :: xs) st else lcD gt ft fe gd ds env st) else .bad
def dLc (b : Bool) (fi : DI) (gt : DG) (ft : DT) (fe : DE) (vs : List Nat) : DE := fun env st => (fi env st).bind fun p st => if p.1.length ≤ 16777216 then (lcD gt ft fe p.2 p.1 (wipeE env vs) st).b fun xs st => mkL b xs st else .bad
def PTsD (X : Cx) (g : GC) (W : WX) (es : List Expr) (f : DT) : Prop := PTs X es (tDT g W f)
theorem PTs.imp {X : Cx} {e : List Expr} {t t' : TT} (h : PTs X e t) (hi : ∀ σ H Q, t' σ H Q → t σ H Q) : PTs X e t' := ⟨fun pins s σ H Q I q => h.run pins s σ H Q I (hi _ _ _ q)⟩
def dYes : DT := fun _ st => .ok true st
section
variable {X : Cx} {g : GC} {W : WX} {k : Nat} {pos : Pos}
theorem ts_nil : PTsD X g W [] dYes := PTs.imp pts_nil fun σ H Q ⟨μ, env, st, S, E, h⟩ => h.here S
theorem ts_one {c : Expr} {f : DT} (h : PTD X g W c f) : PTsD X g W [c] f := pts_one h
theorem Ok.blk (O : Ok X g W k) (s : Shared) (H : Hp) (scope : Scope) (ce : PySem.Env) (fp : List Addr) : Ok (X.blk s H scope ce fp) g W0 k := ⟨O.hK, takes0, PassesOwn.never, O.calm, O.nd, O.room⟩
theorem But.wipe {is vs : List Nat} {σ σ' : L2.St} (h : But is (L2.wipe σ vs) σ') (hs : ∀ i ∈ is, i ∈ vs) : L2.wipe σ' vs = L2.wipe σ vs := by
  apply List.ext_getElem?
  intro j
  by_cases hj : j ∈ vs
  · have at_ : ∀ (ρ : L2.St) (ws : List Nat), j ∈ ws → (L2.wipe ρ ws)[j]? = if j < ρ.length then some none else none := fun ρ ws => by
      induction ws with
      | nil => intro z; cases z
      | cons w ws ih =>
        intro z
        show ((L2.wipe ρ ws).set w none)[j]? = _
        by_cases e : w = j
        · subst e
          by_cases hl : w < ρ.length
          · rw [if_pos hl, List.getElem?_set_self (by rw [L2.wipe_length]; exact hl)]
          · rw [if_neg hl, List.getElem?_eq_none (by rw [List.length_set, L2.wipe_length]; omega)]
        · rw [List.getElem?_set_ne e]
          exact ih ((List.mem_cons.mp z).resolve_left fun q => e q.symm)
    rw [at_ _ _ hj, at_ _ _ hj, h.1, L2.wipe_length]
  · rw [L2.wipe_out hj, L2.wipe_out hj]
    have := h.2 j fun z => hj (hs j z)
    rw [this, L2.wipe_out hj]
theorem bindI {β : Type} {f : DI} {q : List D × Gd → Store → R β} {μ : Mp} {H : Hp} {env : Env} {σ : L2.St} {st : Store} {P : Mp → Hp → β → Store → Prop} (S : RelS g μ H st) (E : RelE g μ H env σ) (h : Post g W σ μ H ((f env st).bind q) P) {Rest : It → Hp → Prop}
    (hk : ∀ μ1 H1 p st1 J, Le μ H μ1 H1 → RelS g μ1 H1 st1 → RelE g μ1 H1 env σ → ItOk g J p.1 p.2 μ1 H1 → Post g W σ μ1 H1 (q p st1) P → Rest J H1) : tDI g W f σ H Rest := by
  refine ⟨μ, env, st, S, E, ?_⟩
  generalize f env st = r at h ⊢
  cases r with
  | ok d st1 => exact fun μ1 H1 L S1 J hJ => hk μ1 H1 d st1 J L S1 (E.le L) hJ (Post.le L h)
  | ex c st1 => exact fun μ1 H1 L S1 => h μ1 H1 L S1
  | bad => exact h
/-- the reading of a comprehension -/
theorem lc_ok {b : Bool} {is vs : List Nat} {gt : DG} {ft : DT} {fe : DE} {σ : L2.St} {Q : VK} {μ1 : Mp} {H1 : Hp} {env : Env} {ds : List D} {gd : Gd} {st1 : Store} {J : It} (S1 : RelS g μ1 H1 st1) (E1 : RelE g μ1 H1 env σ) (hJ : ItOk g J ds gd μ1 H1) (hv : ∀ i ∈ is, i ∈ vs) (hl : ds.length ≤ 16777216)
    (h1 : Post g W σ μ1 H1 ((lcD gt ft fe gd ds (wipeE env vs) st1).b fun xs st => mkL b xs st) (VP g Q)) (D₀ : Addr) (hD : H1 D₀ = none) :
    ∃ Wv : Nat → Nat → Hp → Prop, (∃ m, Wv 0 m (upd H1 D₀ (.lst []))) ∧ ∀ i m H, Wv i m H →
      (J.stop i H ∧ Q (.ref D₀) H) ∨ (J.go i H ∧ ∃ Nx : Hp → Prop, (∀ H', Nx H' → ∃ m', m' < m ∧ Wv (i + 1) m' H') ∧ ∀ x H', J.yld i H x H' → tDG g is gt x (L2.wipe σ vs) H' fun σ2 H2 => L2.wipe σ2 vs = L2.wipe σ vs ∧ tDT g W0 ft σ2 H2 fun b H3 =>
        if b = true then tDE g W0 fe σ2 H3 fun y H4 => ∃ acc, H4 D₀ = some (.lst acc) ∧ acc.length < sizeLine ∧ Nx (upd H4 D₀ (.lst (acc ++ [y]))) else Nx H3) := by
  have nD : ∀ a ∈ μ1.h, a ≠ D₀ := fun a ha => S1.hne hD ha
  have nD' : D₀ ∉ μ1.h := fun z => nD _ z rfl
  obtain ⟨m1, h1'⟩ := μ1
  refine ⟨fun i m H => m = ds.length - i ∧ i ≤ ds.length ∧ ∃ (μm : List Addr) (st : Store) (acc : List D) (vacc : List V), Le ⟨m1, h1'⟩ H1 ⟨μm, h1'⟩ H ∧ RelS g ⟨μm, D₀ :: h1'⟩ H st ∧ RelE g ⟨μm, D₀ :: h1'⟩ H env σ ∧ ItOk g J ds gd ⟨μm, D₀ :: h1'⟩ H ∧ H D₀ = some (.lst vacc) ∧ Reps g ⟨μm, D₀ :: h1'⟩ H acc vacc ∧ acc.length ≤ i ∧
      Post g W σ ⟨m1, h1'⟩ H1 ((lcD gt ft fe gd (ds.drop i) (wipeE env vs) st).b fun xs st => mkL b (acc ++ xs) st) (VP g Q),
    ⟨ds.length, by simp, Nat.zero_le _, m1, st1, [], [], le_new S1 hD, S1.hide hD, E1.lw (lw_hide S1 hD), hJ.le (lw_hide S1 hD), upd_same, rfl, Nat.zero_le _, h1⟩, ?_⟩
  rintro i m H ⟨rfl, hi, μm, st, acc, vacc, L, S, E, hJ, hH, ra, hal, q⟩
  by_cases hlt : i < ds.length
  · rw [List.drop_eq_getElem_cons hlt] at q
    have q : Post g W σ ⟨m1, h1'⟩ H1 ((if gdOk gd st = true then (match gt ds[i] (wipeE env vs) with
      | none => R.bad
      | some env1 => (ft env1 st).b fun b st => if b = true then (fe env1 st).b fun x st => (lcD gt ft fe gd (ds.drop (i + 1)) (wipeE env vs) st).b fun xs st => .ok (x :: xs) st else lcD gt ft fe gd (ds.drop (i + 1)) (wipeE env vs) st) else R.bad).b fun xs st => mkL b (acc ++ xs) st) (VP g Q) := q
    split at q
    · rename_i hgd
      obtain ⟨hgo, hy⟩ := (hJ ⟨μm, D₀ :: h1'⟩ H st Lw.refl S hgd).1 i ds[i] (List.getElem?_eq_getElem hlt)
      refine .inr ⟨hgo, fun H' => ds.length - (i + 1) = ds.length - (i + 1) ∧ i + 1 ≤ ds.length ∧ ∃ (μm : List Addr) (st : Store) (acc : List D) (vacc : List V), Le ⟨m1, h1'⟩ H1 ⟨μm, h1'⟩ H' ∧ RelS g ⟨μm, D₀ :: h1'⟩ H' st ∧ RelE g ⟨μm, D₀ :: h1'⟩ H' env σ ∧ ItOk g J ds gd ⟨μm, D₀ :: h1'⟩ H' ∧ H' D₀ = some (.lst vacc) ∧ Reps g ⟨μm, D₀ :: h1'⟩ H' acc vacc ∧ acc.length ≤ i + 1 ∧
        Post g W σ ⟨m1, h1'⟩ H1 ((lcD gt ft fe gd (ds.drop (i + 1)) (wipeE env vs) st).b fun xs st => mkL b (acc ++ xs) st) (VP g Q), fun H' w => ⟨ds.length - (i + 1), by omega, w⟩, fun x H' y => ?_⟩
      obtain ⟨Lb, S2, r2⟩ := hy x H' y
      cases e : gt ds[i] (wipeE env vs) with
      | none => rw [e] at q; exact q.elim
      | some env2 =>
        rw [e] at q
        refine ⟨⟨μm, D₀ :: h1'⟩, wipeE env vs, st, ds[i], S2, (E.le Lb).wipe vs, r2, env2, e, fun σ2 E2 bt => ⟨bt.wipe hv, ⟨μm, D₀ :: h1'⟩, env2, st, S2, E2, ?_⟩⟩
        have q : Post g W σ ⟨m1, h1'⟩ H1 (((ft env2 st).b fun b st => if b = true then (fe env2 st).b fun x st => (lcD gt ft fe gd (ds.drop (i + 1)) (wipeE env vs) st).b fun xs st => .ok (x :: xs) st else lcD gt ft fe gd (ds.drop (i + 1)) (wipeE env vs) st).b fun xs st => mkL b (acc ++ xs) st) (VP g Q) := q
        generalize ft env2 st = rt at q ⊢
        cases rt with
        | ex c st3 => exact q.elim
        | bad => exact q.elim
        | ok bb st3 =>
          intro μ3 H3 L3 S3
          obtain ⟨m3, h3⟩ := μ3
          obtain rfl : h3 = D₀ :: h1' := L3.hh
          have L23 := Lb.trans L3
          cases bb with
          | false =>
            rw [if_neg Bool.false_ne_true]
            exact ⟨rfl, hlt, m3, st3, acc, vacc, le_over rfl hD L L23.toLw (fun a ha => L23.hk a (List.mem_cons_of_mem _ ha)), S3, E.le L23, hJ.le L23.toLw, (L23.hk D₀ List.mem_cons_self).trans hH, ra.le L23, by omega, q⟩
          | true =>
            rw [if_pos rfl]
            refine ⟨⟨m3, D₀ :: h1'⟩, env2, st3, S3, E2.le L3, ?_⟩
            have q : Post g W σ ⟨m1, h1'⟩ H1 (((fe env2 st3).b fun x st => (lcD gt ft fe gd (ds.drop (i + 1)) (wipeE env vs) st).b fun xs st => .ok (x :: xs) st).b fun xs st => mkL b (acc ++ xs) st) (VP g Q) := q
            generalize fe env2 st3 = re at q ⊢
            cases re with
            | ex c st4 => exact q.elim
            | bad => exact q.elim
            | ok y st4 =>
              intro μ4 H4 L4 S4 v rv
              obtain ⟨m4, h4⟩ := μ4
              obtain rfl : h4 = D₀ :: h1' := L4.hh
              have L24 := L23.trans L4
              have h4D : H4 D₀ = some (.lst vacc) := (L24.hk D₀ List.mem_cons_self).trans hH
              have gr := le_grow (μ := ⟨m4, h1'⟩) (p := D₀) (o := .lst (vacc ++ [v])) S4
              have L25 := L24.toLw.trans gr
              have q : Post g W σ ⟨m1, h1'⟩ H1 (((lcD gt ft fe gd (ds.drop (i + 1)) (wipeE env vs) st4).b fun xs st => .ok (y :: xs) st).b fun xs st => mkL b (acc ++ xs) st) (VP g Q) := q
              rw [R.b_b] at q
              refine ⟨vacc, h4D, ?_, rfl, hlt, m4, st4, acc ++ [y], vacc ++ [v], le_over rfl hD L L25 (fun a ha => (L2.upd_ne (nD a ha)).trans (L24.hk a (List.mem_cons_of_mem _ ha))), (RelS.grow (μ := ⟨m4, h1'⟩) S4 h4D), E.lw L25, hJ.le L25, upd_same, (ra.lw L25).append ⟨v, [], rfl, rv.lw gr, rfl⟩, by simp; omega, ?_⟩
              · rw [← ra.len, sizeLine_eq]
                omega
              · simp only [R.b_ok] at q
                simp only [List.append_assoc, List.singleton_append]
                exact q
    · exact q.elim
  · have hi2 : i = ds.length := by omega
    subst hi2
    rw [List.drop_length] at q
    have q : Post g W σ ⟨m1, h1'⟩ H1 ((if gdOk gd st = true then R.ok [] st else .bad).b fun xs st => mkL b (acc ++ xs) st) (VP g Q) := q
    split at q
    · rename_i hgd
      have q : Post g W σ ⟨m1, h1'⟩ H1 (mkL b (acc ++ []) st) (VP g Q) := q
      rw [List.append_nil] at q
      refine .inl ⟨(hJ _ H st Lw.refl S hgd).2, ?_⟩
      cases b with
      | false => exact q ⟨μm, h1'⟩ H L (RelS.show (μ := ⟨μm, h1'⟩) S) _ ⟨D₀, vacc, rfl, ⟨⟨(S.hid D₀ List.mem_cons_self).1, nD'⟩, hH⟩, ra.lw (lw_show (μ := ⟨μm, h1'⟩))⟩
      | true =>
        refine q ⟨μm ++ [D₀], h1'⟩ H (le_adopt hD L) (S.adopt hH ra nD') _ ⟨D₀, rfl, ?_⟩
        have sl : μm.length = st.length := S.len
        show (μm ++ [D₀])[st.length]? = some D₀
        rw [← sl]
        simp
    · exact q.elim
theorem pd_lc (b : Bool) {elt tg iter : Expr} {ifs : List Expr} {scope : Scope} {own : List (Str × Nat)} {fi : DI} {is : List Nat} {gt : DG} {ft : DT} {fe : DE} (O : Ok X g W k) (hi : PID X g W tg iter fi) (ok : BlkOk X.N X.env.scope scope own)
    (hg : ∀ (s : Shared) (H : Hp) (C : Addr) (cl : List (Str × Addr)) (fp : List Addr), PGD (X.blk s H scope (compEnvC scope cl C X.env) fp) g tg is gt) (ht : ∀ (s : Shared) (H : Hp) (C : Addr) (cl : List (Str × Addr)) (fp : List Addr), PTsD (X.blk s H scope (compEnvC scope cl C X.env) fp) g W0 ifs ft)
    (he : ∀ (s : Shared) (H : Hp) (C : Addr) (cl : List (Str × Addr)) (fp : List Addr), PD (X.blk s H scope (compEnvC scope cl C X.env) fp) g W0 elt fe) (hs : ∀ x, foldedSetIterable iter X.env x = pure x := by intro _; rfl) (hv : ∀ i ∈ is, i ∈ own.map (·.2) := by decide) :
    PD X g W (.ListComp elt [⟨tg, iter, ifs, 0⟩] scope pos) (dLc b fi gt ft fe (own.map (·.2))) :=
  PE.imp (pe_lc O.calm O.nd hi ok hg ht he hs) fun σ H Q ⟨μ, env, st, S, E, q⟩ => by
    refine bindI S E q fun μ1 H1 p st1 J L1 S1 E1 hJ h1 => ?_
    split at h1
    · rename_i hl
      exact fun D hD => lc_ok S1 E1 hJ hv hl h1 D hD
    · exact h1.elim
theorem s_lc (b : Bool) {elt tg iter : Expr} {ifs : List Expr} {scope : Scope} {own : List (Str × Nat)} {fi : DI} {is : List Nat} {gt : DG} {ft : DT} {fe : DE} {i : Nat} {y : Str} {py spos : Pos} (O : Ok X g W k) (hi : PID X g W tg iter fi) (ok : BlkOk X.N X.env.scope scope own)
    (hg : ∀ (s : Shared) (H : Hp) (C : Addr) (cl : List (Str × Addr)) (fp : List Addr), PGD (X.blk s H scope (compEnvC scope cl C X.env) fp) g tg is gt) (ht : ∀ (s : Shared) (H : Hp) (C : Addr) (cl : List (Str × Addr)) (fp : List Addr), PTsD (X.blk s H scope (compEnvC scope cl C X.env) fp) g W0 ifs ft)
    (he : ∀ (s : Shared) (H : Hp) (C : Addr) (cl : List (Str × Addr)) (fp : List Addr), PD (X.blk s H scope (compEnvC scope cl C X.env) fp) g W0 elt fe)
    (hsw : swapsWith (.ListComp elt [⟨tg, iter, ifs, 0⟩] scope pos) (some (.Name y py)) spos.line X.env = pure true) (hy : X.N[i]? = some y := by rfl) (hyl : X.env.scope.names.lookup y = some .local := by rfl) (hs : ∀ x, foldedSetIterable iter X.env x = pure x := by intro _; rfl) (hv : ∀ i ∈ is, i ∈ own.map (·.2) := by decide) :
    PSD X g W (.Assign [.Name y py] (.ListComp elt [⟨tg, iter, ifs, 0⟩] scope pos) spos) (dAsg (dLc b fi gt ft fe (own.map (·.2))) (dgName i)) :=
  PS.imp (ps_setLc O.calm O.nd hy hyl hsw hi ok hg ht he hs) fun Dn σ H ⟨μ, env, st, S, E, q⟩ => by
    have q : PostS g W μ H ((((fi env st).bind fun p st => if p.1.length ≤ 16777216 then (lcD gt ft fe p.2 p.1 (wipeE env (own.map (·.2))) st).b fun xs st => mkL b xs st else .bad)).s env fun d st => .nx (env.set i (some d)) st) Dn := q
    have q2 : Post g W σ μ H ((fi env st).bind fun p st => if p.1.length ≤ 16777216 then (lcD gt ft fe p.2 p.1 (wipeE env (own.map (·.2))) st).b fun xs st => mkL b xs st else .bad) (VP g fun x H1 => gName i x σ H1 Dn.nx) := by
      generalize ((fi env st).bind fun p st => if p.1.length ≤ 16777216 then (lcD gt ft fe p.2 p.1 (wipeE env (own.map (·.2))) st).b fun xs st => mkL b xs st else R.bad) = r at q ⊢
      cases r with
      | ok d st1 => exact fun μ1 H1 L S1 v rv => q μ1 H1 _ L S1 ((E.le L).set i rv)
      | ex c st1 => exact fun μ1 H1 L S1 => q μ1 H1 σ L S1 (E.le L)
      | bad => exact q
    refine bindI S E q2 fun μ1 H1 p st1 J L1 S1 E1 hJ h1 => ?_
    split at h1
    · rename_i hl
      exact fun D hD => lc_ok S1 E1 hJ hv hl h1 D hD
    · exact h1.elim
end
end G

namespace G
open PySem L2
/-! ### built-ins -/
def CallD (X : Cx) (g : GC) (W : WX) (f : Value) (h : List D → Store → R D) : Prop := ∃ r, CallR X f r ∧ ∀ (σ : L2.St) (μ : Mp) (H : Hp) (st : Store) (ds : List D) (vs : List V) (Q : VK), RelS g μ H st → Reps g μ H ds vs → Post g W σ μ H (h ds st) (VP g Q) → r vs H Q
section
variable {X : Cx} {g : GC} {W : WX} {k : Nat} {pos : Pos}
theorem callB_ok {r : List V → Hp → VK → Prop} {h : List D → Store → R D} {fa : DA} (hr : ∀ (σ : L2.St) (μ : Mp) (H : Hp) (st : Store) (ds : List D) (vs : List V) (Q : VK), RelS g μ H st → Reps g μ H ds vs → Post g W σ μ H (h ds st) (VP g Q) → r vs H Q) {σ : L2.St} {H : Hp} {Q : VK}
    (q : tDE g W (dCall h fa) σ H Q) : tCB r (tDA g W fa) σ H Q := by
  obtain ⟨μ, env, st, S, E, q⟩ := q
  exact bindA S E q fun μ1 H1 ds st1 vs L S1 E1 r1 h1 => hr σ μ1 H1 st1 ds vs Q S1 r1 h1
theorem pd_callB {x : Str} {id : String} {p : Pos} {e : Expr} {es : List Expr} {h : List D → Store → R D} {fa : DA} (hc : CallD X g W (.builtin id) h) (hm : X.mg x = none) (hv : bootBuiltins x = some (.builtin id)) (ha : PAD X g W (e :: es) fa) (hg : Gl X x := by rfl)
    (hn : x ≠ "__name__" := by decide) (hdb : (x == ("__debug__" : Str)) = false := by decide) (he : starEach (e :: es) X.env = (false, eval e X.env) :: starEach es X.env := by rfl) (hpl : (backTo pos (starEach es X.env)).any (·.1) = false := by rfl) : PD X g W (.Call (.Name x p) (e :: es) [] pos) (dCall h fa) := by
  obtain ⟨r, h1, h2⟩ := hc
  exact PE.imp (pe_callB h1 hg hm hv ha hn hdb he hpl) fun σ H Q q => callB_ok h2 q
theorem pd_callT {x : Str} {id : String} {p : Pos} {e : Expr} {es : List Expr} {h : List D → Store → R D} {fa : DA} (hc : CallD X g W (.type id) h) (hm : X.mg x = none) (hv : bootBuiltins x = some (.type id)) (ha : PAD X g W (e :: es) fa) (hg : Gl X x := by rfl)
    (hn : x ≠ "__name__" := by decide) (hdb : (x == ("__debug__" : Str)) = false := by decide) (he : starEach (e :: es) X.env = (false, eval e X.env) :: starEach es X.env := by rfl) (hpl : (backTo pos (starEach es X.env)).any (·.1) = false := by rfl) : PD X g W (.Call (.Name x p) (e :: es) [] pos) (dCall h fa) := by
  obtain ⟨r, h1, h2⟩ := hc
  exact PE.imp (pe_callTy h1 hg hm hv ha hn hdb he hpl) fun σ H Q q => callB_ok h2 q
theorem reps1 {μ : Mp} {H : Hp} {d : D} {vs : List V} (r : Reps g μ H [d] vs) : ∃ v, vs = [v] ∧ Rep g μ H d v := by
  obtain ⟨v, vr, e, h1, h2⟩ := r
  rw [show vr = [] from h2] at e
  exact ⟨v, e, h1⟩
theorem reps2 {μ : Mp} {H : Hp} {d d' : D} {vs : List V} (r : Reps g μ H [d, d'] vs) : ∃ v v', vs = [v, v'] ∧ Rep g μ H d v ∧ Rep g μ H d' v' := by
  obtain ⟨v, vr, e, h1, h2⟩ := r
  obtain ⟨v', e', h3⟩ := reps1 h2
  rw [e'] at e
  exact ⟨v, v', e, h1, h3⟩
/-- a call of one value -/
theorem call1 {f : Value} {r : List V → Hp → VK → Prop} (hc : CallR X f r) {h : D → Store → R D} (hr : ∀ (σ : L2.St) (μ : Mp) (H : Hp) (st : Store) (d : D) (v : V) (Q : VK), RelS g μ H st → Rep g μ H d v → Post g W σ μ H (h d st) (VP g Q) → r [v] H Q) :
    CallD X g W f (fun ds st => match ds with
      | [d] => h d st
      | _ => .bad) := ⟨r, hc, fun σ μ H st ds vs Q S rs q => by
  match ds, q with
  | [], q => exact q.elim
  | [d], q => obtain ⟨v, e, r1⟩ := reps1 rs; rw [e]; exact hr σ μ H st d v Q S r1 q
  | _ :: _ :: _, q => exact q.elim⟩
/-- a call of two values -/
theorem call2 {f : Value} {r : List V → Hp → VK → Prop} (hc : CallR X f r) {h : D → D → Store → R D} (hr : ∀ (σ : L2.St) (μ : Mp) (H : Hp) (st : Store) (d e : D) (v u : V) (Q : VK), RelS g μ H st → Rep g μ H d v → Rep g μ H e u → Post g W σ μ H (h d e st) (VP g Q) → r [v, u] H Q) :
    CallD X g W f (fun ds st => match ds with
      | [d, e] => h d e st
      | _ => .bad) := ⟨r, hc, fun σ μ H st ds vs Q S rs q => by
  match ds, q with
  | [], q => exact q.elim
  | [_], q => exact q.elim
  | [d, d2], q => obtain ⟨v, v2, e, r1, r2⟩ := reps2 rs; rw [e]; exact hr σ μ H st d d2 v v2 Q S r1 r2 q
  | _ :: _ :: _ :: _, q => exact q.elim⟩
def bAbs : List D → Store → R D := fun ds st => match ds with
  | [d] => (match d with
    | .int i => .ok (.int (if i < 0 then -i else i)) st
    | _ => .bad)
  | _ => .bad
theorem cAbs : CallD X g W (.builtin "abs") bAbs := call1 call_abs fun σ μ H st d v Q S r q => by
  cases d with
  | int i => exact ⟨i, by rw [show v = V.int i from r], q.here S _ rfl⟩
  | _ => exact q.elim
def bMax2 : List D → Store → R D := fun ds st => match ds with
  | [d, e] => (match d, e with
    | .int i, .int j => .ok (.int (if j > i then j else i)) st
    | _, _ => .bad)
  | _ => .bad
def bMin2 : List D → Store → R D := fun ds st => match ds with
  | [d, e] => (match d, e with
    | .int i, .int j => .ok (.int (if j < i then j else i)) st
    | _, _ => .bad)
  | _ => .bad
theorem cMax2 (O : Ok X g W k) : CallD X g W (.builtin "max") bMax2 := call2 (call_max2 O.calm) fun σ μ H st d e v u Q S r1 r2 q => by
  cases d with
  | int i =>
    cases e with
    | int j => exact ⟨i, j, by rw [show v = V.int i from r1, show u = V.int j from r2], q.here S _ rfl⟩
    | _ => exact q.elim
  | _ => exact q.elim
theorem cMin2 (O : Ok X g W k) : CallD X g W (.builtin "min") bMin2 := call2 (call_min2 O.calm) fun σ μ H st d e v u Q S r1 r2 q => by
  cases d with
  | int i =>
    cases e with
    | int j => exact ⟨i, j, by rw [show v = V.int i from r1, show u = V.int j from r2], q.here S _ rfl⟩
    | _ => exact q.elim
  | _ => exact q.elim
def bInt : List D → Store → R D := fun ds st => match ds with
  | [d] => (match d with
    | .int i => .ok (.int i) st
    | .bl b => .ok (.int (if b = true then 1 else 0)) st
    | _ => .bad)
  | _ => .bad
theorem cInt : CallD X g W (.type "int") bInt := call1 call_int1 fun σ μ H st d v Q S r q => by
  cases d with
  | int i => exact .inl ⟨i, by rw [show v = V.int i from r], q.here S _ rfl⟩
  | bl b => exact .inr ⟨b, by rw [show v = V.bl b from r], q.here S _ rfl⟩
  | _ => exact q.elim
/-- len -/
def bLen : List D → Store → R D := fun ds st => match ds with
  | [d] => (match d with
    | .str x => if x.length ≤ 16777216 then .ok (.int (x.length : Nat)) st else .bad
    | d => match seqA st d with
      | some ds => .ok (.int (ds.length : Nat)) st
      | none => .bad)
  | _ => .bad
theorem cLen (O : Ok X g W k) : CallD X g W (.builtin "len") bLen := call1 call_len fun σ μ H st d v Q S r q => by
  rw [O.hK]
  split at q
  · rename_i x
    split at q
    · rename_i hl
      exact ⟨v, x.length, rfl, by rw [show v = V.str x from r]; exact ⟨sizeLine_le hl, rfl⟩, q.here S _ rfl⟩
    · exact q.elim
  · split at q
    · rename_i ds hs
      obtain ⟨a, vs, e, h1, r1⟩ := seqA_ok S r hs
      refine ⟨v, ds.length, rfl, ?_, q.here S _ rfl⟩
      rw [e]
      rcases h1 with h1 | h1
      · exact .inl ⟨vs, h1, r1.len⟩
      · exact .inr ⟨vs, h1, r1.len⟩
    · exact q.elim
/-- sum of ints, a list or a tuple -/
theorem preSum_get (ns : List Int) : ∀ j, preSum (fun i => ns.getD i 0) j = (ns.take j).sum
  | 0 => by simp [preSum]
  | j + 1 => by
    rw [preSum, preSum_get ns j]
    by_cases h : j < ns.length
    · rw [List.take_succ_eq_append_getElem h, List.sum_append]
      simp [List.getD, List.getElem?_eq_getElem h]
    · rw [List.take_of_length_le (by omega), List.take_of_length_le (by omega)]
      simp [List.getD, List.getElem?_eq_none (by omega : ns.length ≤ j)]
theorem cr_sumT (hc : X.calm = true) : CallR X (.builtin "sum") (fun vs H Q => ∃ (a : Addr) (ns : List Int), vs = [V.ref a] ∧ SqT X.K H a (ns.map V.int) ∧ Q (.int ns.sum) H) := by
  intro pins s σ H vs us Q I r h
  obtain ⟨a, ns, rfl, hs, q⟩ := h
  obtain ⟨u, rfl, ru⟩ := vals1 r
  obtain rfl : u = Value.ref a := ru
  obtain ⟨its, rv, pt, _⟩ := I.tuple hs
  have pt' : s.heap.IsTuple a its.toArray := pt
  have hlt : a < s.heap.objs.size := pt.lt
  have hint := intsAre_of rv
  refine call_sum_walkG (wpAny_pyIter_tuple pt' ⟨s.heap.objs.size, _, _, _, _, _, fun i => ns.getD i 0, rfl, Walks.tuple (A := X.A.in1) (I.ok.hd hc) s.heap.objs.size a (Nat.ne_of_lt hlt) its.toArray, ⟨⟨_, Heap.get?_push_size _ rfl, rfl, rfl⟩, ?_⟩, fun b hb => ?_, fun i v hv => ?_, fun h' tk t' hk => ?_⟩)
  · exact pt'.at fun o e => Heap.get?_push_of_some _ e
  · show b < (s.heap.push _).objs.size
    rw [Heap.size_push]
    rcases List.mem_cons.mp hb with z | z
    · rw [z]; exact Nat.lt_succ_self _
    · rw [List.mem_singleton.mp z]; exact Nat.lt_succ_of_lt hlt
  · exact PyProof.Rows.IntsAre.int_at hint i v (by simpa using hv)
  · have hsum : preSum (fun i => ns.getD i 0) its.toArray.size = ns.sum := by
      rw [preSum_get, List.take_of_length_le]
      rw [List.size_toArray, ← rv.length, List.length_map]
      exact Nat.le_refl _
    rw [hsum]
    exact ⟨.int ns.sum, H, I.kept fun b o e => hk b o (by simp; intro z; rw [z] at e; exact Nat.lt_irrefl _ (Heap.lt_size e)) (Heap.get?_push_of_some _ e), ⟨_, rfl⟩, q⟩
theorem callR_or {f : Value} {r r' : List V → Hp → VK → Prop} (h : CallR X f r) (h' : CallR X f r') : CallR X f (fun xs H Q => r xs H Q ∨ r' xs H Q) := fun pins s σ H xs us Q I rs q => q.elim (h pins s σ H xs us Q I rs) (h' pins s σ H xs us Q I rs)
def bSum : List D → Store → R D := fun ds st => match ds with
  | [d] => (match seqA st d with
    | some ds => (match intsD ds with
      | some ns => .ok (.int ns.sum) st
      | none => .bad)
    | none => .bad)
  | _ => .bad
theorem cSum (O : Ok X g W k) : CallD X g W (.builtin "sum") bSum := call1 (callR_or (cr_sum O.calm) (cr_sumT O.calm)) fun σ μ H st d v Q S r q => by
  rw [O.hK]
  split at q
  · rename_i ds hs
    split at q
    · rename_i ns hn
      obtain ⟨a, vs, e, h1, r1⟩ := seqA_ok S r hs
      have e2 := ints_ok hn r1
      subst e2
      rcases h1 with h1 | h1
      · exact .inl ⟨a, ns, by rw [e], h1, q.here S _ rfl⟩
      · exact .inr ⟨a, ns, by rw [e], h1, q.here S _ rfl⟩
    · exact q.elim
  · exact q.elim
/-- list(x), tuple(x) -/
def bList (b : Bool) : List D → Store → R D := fun ds st => match ds with
  | [d] => (match seqA st d with
    | some ds => mkL b ds st
    | none => .bad)
  | _ => .bad
theorem cList {b : Bool} (O : Ok X g W k) : CallD X g W (.type "list") (bList b) := call1 call_list_of fun σ μ H st d v Q S r q => by
  rw [O.hK]
  split at q
  · rename_i ds hs
    obtain ⟨a, vs, e, h1, r1⟩ := seqA_ok S r hs
    exact ⟨a, vs, by rw [e], h1, fun l hl => mkL_ok S r1 q hl⟩
  · exact q.elim
def bTuple : List D → Store → R D := fun ds st => match ds with
  | [d] => (match d with
    | .tup ds => .ok (.tup ds) st
    | d => match seqL st d with
      | some ds => .ok (.tup ds) st
      | none => .bad)
  | _ => .bad
theorem cTuple (O : Ok X g W k) : CallD X g W (.type "tuple") bTuple := call1 call_tuple_of fun σ μ H st d v Q S r q => by
  rw [O.hK]
  split at q
  · obtain ⟨a, vs, e, h1, r1⟩ := seqT_ok r rfl
    exact ⟨a, vs, by rw [e], .inr ⟨h1, by rw [← e]; exact q.here S _ r⟩⟩
  · split at q
    · rename_i ds hs
      obtain ⟨a, vs, e, h1, r1⟩ := seqL_ok S r hs
      exact ⟨a, vs, by rw [e], .inl ⟨h1, fun l hl => mkT_ok S r1 q hl⟩⟩
    · exact q.elim
/-- max, min of a list of ints -/
def maxI : List Int → Option Int
  | [] => none
  | n :: ns => some (ns.foldl max n)
def minI : List Int → Option Int
  | [] => none
  | n :: ns => some (ns.foldl min n)
theorem foldl_max (ns : List Int) : ∀ n : Int, (ns.foldl max n = n ∨ ns.foldl max n ∈ ns) ∧ n ≤ ns.foldl max n ∧ ∀ y ∈ ns, y ≤ ns.foldl max n := by
  induction ns with
  | nil => intro n; simp
  | cons m ns ih =>
    intro n
    obtain ⟨h1, h2, h3⟩ := ih (max n m)
    simp only [List.foldl_cons]
    refine ⟨?_, by omega, fun y hy => ?_⟩
    · rcases h1 with h1 | h1
      · by_cases e : n ≤ m
        · right; rw [h1, Int.max_eq_right e]; exact List.mem_cons_self
        · left; rw [h1, Int.max_eq_left (by omega)]
      · right; exact List.mem_cons_of_mem _ h1
    · rcases List.mem_cons.mp hy with e | e
      · rw [e]; omega
      · exact h3 y e
theorem foldl_min (ns : List Int) : ∀ n : Int, (ns.foldl min n = n ∨ ns.foldl min n ∈ ns) ∧ ns.foldl min n ≤ n ∧ ∀ y ∈ ns, ns.foldl min n ≤ y := by
  induction ns with
  | nil => intro n; simp
  | cons m ns ih =>
    intro n
    obtain ⟨h1, h2, h3⟩ := ih (min n m)
    simp only [List.foldl_cons]
    refine ⟨?_, by omega, fun y hy => ?_⟩
    · rcases h1 with h1 | h1
      · by_cases e : m ≤ n
        · right; rw [h1, Int.min_eq_right e]; exact List.mem_cons_self
        · left; rw [h1, Int.min_eq_left (by omega)]
      · right; exact List.mem_cons_of_mem _ h1
    · rcases List.mem_cons.mp hy with e | e
      · rw [e]; omega
      · exact h3 y e
def bMaxL : List D → Store → R D := fun ds st => match ds with
  | [d] => (match seqL st d with
    | some ds => (match (intsD ds).bind maxI with
      | some n => .ok (.int n) st
      | none => .bad)
    | none => .bad)
  | _ => .bad
def bMinL : List D → Store → R D := fun ds st => match ds with
  | [d] => (match seqL st d with
    | some ds => (match (intsD ds).bind minI with
      | some n => .ok (.int n) st
      | none => .bad)
    | none => .bad)
  | _ => .bad
theorem cMaxL (O : Ok X g W k) : CallD X g W (.builtin "max") bMaxL := call1 (cr_max O.calm) fun σ μ H st d v Q S r q => by
  rw [O.hK]
  split at q
  · rename_i ds hs
    split at q
    · rename_i n hn
      obtain ⟨a, vs, e, h1, r1⟩ := seqL_ok S r hs
      cases hi : intsD ds with
      | none => rw [hi] at hn; cases hn
      | some ns =>
        rw [hi] at hn
        have e2 := ints_ok hi r1
        subst e2
        cases ns with
        | nil => cases hn
        | cons m ns =>
          cases hn
          obtain ⟨f1, f2, f3⟩ := foldl_max ns m
          refine ⟨a, m :: ns, by rw [e], h1, Nat.succ_pos _, fun x hx hy => ?_⟩
          have hx1 : ns.foldl max m ∈ m :: ns := f1.elim (fun z => by rw [z]; exact List.mem_cons_self) (List.mem_cons_of_mem _)
          have a1 := hy _ hx1
          have a2 : x ≤ ns.foldl max m := (List.mem_cons.mp hx).elim (fun z => by rw [z]; exact f2) (f3 x)
          rw [show x = ns.foldl max m by omega]
          exact q.here S _ rfl
    · exact q.elim
  · exact q.elim
theorem cMinL (O : Ok X g W k) : CallD X g W (.builtin "min") bMinL := call1 (cr_min O.calm) fun σ μ H st d v Q S r q => by
  rw [O.hK]
  split at q
  · rename_i ds hs
    split at q
    · rename_i n hn
      obtain ⟨a, vs, e, h1, r1⟩ := seqL_ok S r hs
      cases hi : intsD ds with
      | none => rw [hi] at hn; cases hn
      | some ns =>
        rw [hi] at hn
        have e2 := ints_ok hi r1
        subst e2
        cases ns with
        | nil => cases hn
        | cons m ns =>
          cases hn
          obtain ⟨f1, f2, f3⟩ := foldl_min ns m
          refine ⟨a, m :: ns, by rw [e], h1, Nat.succ_pos _, fun x hx hy => ?_⟩
          have hx1 : ns.foldl min m ∈ m :: ns := f1.elim (fun z => by rw [z]; exact List.mem_cons_self) (List.mem_cons_of_mem _)
          have a1 := hy _ hx1
          have a2 : ns.foldl min m ≤ x := (List.mem_cons.mp hx).elim (fun z => by rw [z]; exact f2) (f3 x)
          rw [show x = ns.foldl min m by omega]
          exact q.here S _ rfl
    · exact q.elim
  · exact q.elim
end
end G

namespace G
open PySem L2
/-! ### a def -/
def runB (n : Nat) (fb : DS) (args : List D) (st : Store) : R D := match fb (args.map some ++ List.replicate (n - args.length) none) st with
  | .nx _ st => .ok .non st
  | .rt d st => .ok d st
  | .ex c _ st => .ex c st
  | _ => .bad
abbrev bodyCx (P : Program) (w : World) (K : PySem.W.Frag) (mg : Str → Option Value) (base : Heap) (N : List Str) (qual : Str) (sc : Scope) (f : Addr) (cdv : Value) (A : Around) (outer : List PySem.Env) (s : Shared) (H : Hp) (E : XK) : Cx :=
  cxOf (L2.CX P w) P w K mg base N qual sc f cdv A outer s H E
abbrev WB (E : XK) : WX := fun cls d _ H => E cls d H
section
variable {P : Program} {w : World} {mg : Str → Option Value} {base : Heap} {g : GC}
theorem reps_env {μ : Mp} {H : Hp} {ds : List D} {vs : List V} (r : Reps g μ H ds vs) (n : Nat) : RelE g μ H (ds.map some ++ List.replicate (n - ds.length) none) (vs.map some ++ List.replicate (n - vs.length) none) := by
  refine ⟨by simp [r.len], fun i d h => ?_⟩
  by_cases hi : i < ds.length
  · rw [List.getElem?_append_left (by simpa using hi), List.getElem?_map] at h
    cases e : ds[i]? with
    | none => rw [e] at h; cases h
    | some d' =>
      rw [e] at h
      have h : d' = d := by cases h; rfl
      subst h
      obtain ⟨v, h1, h2⟩ := r.get e
      exact ⟨v, by rw [List.getElem?_append_left (by rw [List.length_map, ← r.len]; exact hi), List.getElem?_map, h1] <;> rfl, h2⟩
  · rw [List.getElem?_append_right (by simpa using hi), List.getElem?_replicate] at h
    split at h <;> cases h
/-- THE RULE of a def -/
theorem fn_d {x qual : Str} {st : Stmt} {fa : Addr} {fd : FuncData} {N ps : List Str} {j n : Nat} {fb : DS} (F : Fun g.K x qual st fa fd) (hm : mg x = some (.ref fa)) (S : FnScope N ps (defScope st)) (hb : Binds g.K fd ps []) (hn : ps.length = n)
    (body : ∀ (cdv : Value) (A : Around) (outer : List PySem.Env) (s : Shared) (H : Hp) (E : XK), Ok (bodyCx P w g.K mg base N qual (defScope st) fa cdv A outer s H E) g (WB E) j → PSsD (bodyCx P w g.K mg base N qual (defScope st) fa cdv A outer s H E) g (WB E) (defBody st) fb) :
    FnD P w mg base g (j + 1) x n (runB N.length fb) := by
  refine ⟨fa, fd, ps, hm, F.kp, hb, F.okX S (fun vs H Q E h => h.1.trans hn.symm) fun cdv A outer s H vs Q E hr h => ⟨_, body cdv A outer s H E ⟨rfl, takes_of rfl rfl rfl rfl, passes_of rfl, rfl, S.nd, hr⟩, ?_⟩⟩
  obtain ⟨hl, μ, st0, ds, S0, r, q⟩ := h
  refine ⟨μ, _, st0, S0, reps_env r N.length, ?_⟩
  unfold runB at q
  generalize fb (ds.map some ++ List.replicate (N.length - ds.length) none) st0 = rr at q ⊢
  cases rr with
  | nx env st1 => exact fun μ' H' σ' L S' _ => q μ' H' L S' _ rfl
  | rt d st1 => exact fun μ' H' v L S' rv => q μ' H' L S' v rv
  | bk env st1 => exact q.elim
  | ct env st1 => exact q.elim
  | ex c env st1 => exact fun μ' H' σ' L S' _ => q μ' H' L S'
  | bad => exact q.elim
theorem FnD.mono {j k : Nat} {x : Str} {n : Nat} {f : List D → Store → R D} (F : FnD P w mg base g j x n f) (h : j ≤ k) : FnD P w mg base g k x n f := by
  obtain ⟨fa, fd, ps, h1, h2, h3, h4⟩ := F
  exact ⟨fa, fd, ps, h1, h2, h3, h4.mono h⟩
/-- less is promised -/
theorem FnD.imp {j : Nat} {x : Str} {n : Nat} {f h : List D → Store → R D} (F : FnD P w mg base g j x n f)
    (hi : ∀ (E : XK) (Q : VK) (μ : Mp) (H : Hp) (st : Store) (ds : List D) (vs : List V), RelS g μ H st → Reps g μ H ds vs → Post g (WB E) [] μ H (h ds st) (VP g Q) → Post g (WB E) [] μ H (f ds st) (VP g Q)) : FnD P w mg base g j x n h := by
  obtain ⟨fa, fd, ps, h1, h2, h3, h4⟩ := F
  exact ⟨fa, fd, ps, h1, h2, h3, h4.imp fun vs H Q E ⟨hl, μ, st, ds, S, r, q⟩ => ⟨hl, μ, st, ds, S, r, hi E Q μ H st ds vs S r q⟩⟩
/-- the same function, said otherwise -/
theorem FnD.eq {j : Nat} {x : Str} {n : Nat} {f h : List D → Store → R D} (F : FnD P w mg base g j x n f) (e : ∀ ds st, h ds st ≠ .bad → f ds st = h ds st) : FnD P w mg base g j x n h := F.imp fun E Q μ H st ds vs S r q => by
  by_cases hb : h ds st = .bad
  · rw [hb] at q; exact q.elim
  · rw [e ds st hb]; exact q
end

/-! ### what a def made is let go -/
mutual
/-- no thing of the store from the n-th on -/
def D.cl (n : Nat) : D → Bool
  | .tup xs => D.cls n xs
  | .lst xs => D.cls n xs
  | .dic _ xs => D.cls n xs
  | .ref m => decide (m < n)
  | _ => true
def D.cls (n : Nat) : List D → Bool
  | [] => true
  | x :: xs => D.cl n x && D.cls n xs
end
def fsCl (n : Nat) : List (Str × D) → Bool
  | [] => true
  | (_, d) :: fs => d.cl n && fsCl n fs
def SO.cl (n : Nat) : SO → Bool
  | .lst xs => D.cls n xs
  | .dic _ xs => D.cls n xs
  | .ins _ fs => fsCl n fs
def stCl (n : Nat) : List SO → Bool
  | [] => true
  | o :: os => o.cl n && stCl n os
/-- a new list that is handed back is nobody's any more -/
def letGo (n : Nat) (st : Store) : D → D
  | .ref m => if n ≤ m then (match lstAt st m with
    | some ds => .lst ds
    | none => .ref m) else .ref m
  | d => d
def trim (f : List D → Store → R D) : List D → Store → R D := fun ds st => match f ds st with
  | .ok d st' => if (letGo st.length st' d).cl st.length = true ∧ stCl st.length (st'.take st.length) = true ∧ st.length ≤ st'.length then .ok (letGo st.length st' d) (st'.take st.length) else .bad
  | .ex c st' => if stCl st.length (st'.take st.length) = true ∧ st.length ≤ st'.length then .ex c (st'.take st.length) else .bad
  | .bad => .bad
section
variable {g : GC} {μ μ' : Mp} {H : Hp}
mutual
theorem cl_rep (hm : ∀ i : Nat, i < μ.m.length → μ'.m[i]? = μ.m[i]?) (ho : ∀ a, μ'.out a → μ.out a) : ∀ {d : D} {v : V}, d.cl μ.m.length = true → Rep g μ' H d v → Rep g μ H d v
  | .non, _, _, r => r
  | .bl _, _, _, r => r
  | .int _, _, _, r => r
  | .str _, _, _, r => r
  | .tup ds, v, h, r => by
    obtain ⟨a, vs, e, h1, h2⟩ := r
    refine ⟨a, vs, e, ?_, cls_rep hm ho h h2⟩
    rcases h1 with ⟨n, q⟩ | q
    · exact .inl ⟨ho a n, q⟩
    · exact .inr q
  | .lst ds, v, h, r => by
    obtain ⟨a, vs, e, ⟨n, q⟩, h2⟩ := r
    exact ⟨a, vs, e, ⟨ho a n, q⟩, cls_rep hm ho h h2⟩
  | .dic ks ds, v, h, r => by
    obtain ⟨a, vs, o, e, n, q, h1, h3, h2⟩ := r
    exact ⟨a, vs, o, e, ho a n, q, h1, h3, cls_rep hm ho h h2⟩
  | .ref n, v, h, r => by
    obtain ⟨a, e, q⟩ := r
    have h : decide (n < μ.m.length) = true := h
    rw [decide_eq_true_eq] at h
    exact ⟨a, e, (hm n h).symm.trans q⟩
  | .fn _, _, _, r => r
  | .lam n, v, h, r => by
    obtain ⟨f, c, l, pm, ctv, e, e1, ⟨n1, h1⟩, n2, h2⟩ := r
    exact ⟨f, c, l, pm, ctv, e, e1, ⟨ho f n1, h1⟩, ho c n2, h2⟩
  | .scr ns, v, h, r => by
    obtain ⟨a, e, q⟩ := r
    refine ⟨a, e, ?_⟩
    rcases q with ⟨n, q⟩ | q
    · exact .inl ⟨ho a n, q⟩
    · exact .inr q
theorem cls_rep (hm : ∀ i : Nat, i < μ.m.length → μ'.m[i]? = μ.m[i]?) (ho : ∀ a, μ'.out a → μ.out a) : ∀ {ds : List D} {vs : List V}, D.cls μ.m.length ds = true → Reps g μ' H ds vs → Reps g μ H ds vs
  | [], _, _, r => r
  | d :: ds, vs, h, r => by
    obtain ⟨v, vr, e, h1, h2⟩ := r
    have h : (D.cl μ.m.length d && D.cls μ.m.length ds) = true := h
    rw [Bool.and_eq_true] at h
    exact ⟨v, vr, e, cl_rep hm ho h.1 h1, cls_rep hm ho h.2 h2⟩
end
theorem fsCl_rep (hm : ∀ i : Nat, i < μ.m.length → μ'.m[i]? = μ.m[i]?) (ho : ∀ a, μ'.out a → μ.out a) : ∀ {fs : List (Str × D)} {gs : List (Str × V)}, fsCl μ.m.length fs = true → RepF g μ' H fs gs → RepF g μ H fs gs
  | [], _, _, r => r
  | (f, d) :: fs, vs, h, r => by
    obtain ⟨v, vr, e, h1, h2⟩ := r
    have h : (D.cl μ.m.length d && fsCl μ.m.length fs) = true := h
    rw [Bool.and_eq_true] at h
    exact ⟨v, vr, e, cl_rep hm ho h.1 h1, fsCl_rep hm ho h.2 h2⟩
theorem soCl_rep (hm : ∀ i : Nat, i < μ.m.length → μ'.m[i]? = μ.m[i]?) (ho : ∀ a, μ'.out a → μ.out a) {a : Addr} {so : SO} (h : so.cl μ.m.length = true) (r : RepO g μ' H a so) : RepO g μ H a so := by
  cases so with
  | lst ds => obtain ⟨vs, e, r⟩ := r; exact ⟨vs, e, cls_rep hm ho h r⟩
  | dic ks ds => obtain ⟨vs, o, e, d, l, r⟩ := r; exact ⟨vs, o, e, d, l, cls_rep hm ho h r⟩
  | ins C fs => obtain ⟨dx, gs, e, r⟩ := r; exact ⟨dx, gs, e, fsCl_rep hm ho h r⟩
theorem stCl_at : ∀ {os : List SO} {n i : Nat} {o : SO}, stCl n os = true → os[i]? = some o → o.cl n = true
  | [], _, _, _, _, h => by simp at h
  | o :: os, n, 0, _, h, e => by
    simp at e
    subst e
    have h : (o.cl n && stCl n os) = true := h
    exact (Bool.and_eq_true_iff.mp h).1
  | o :: os, n, i + 1, _, h, e => by
    have h : (o.cl n && stCl n os) = true := h
    exact stCl_at (Bool.and_eq_true_iff.mp h).2 (by simpa using e)
variable {P : Program} {w : World} {mg : Str → Option Value} {base : Heap}
theorem scope_ok {st st' : Store} {H' : Hp} (S : RelS g μ H st) (L : Le μ H μ' H') (S' : RelS g μ' H' st') (hl : st.length ≤ st'.length) (hc : stCl st.length (st'.take st.length) = true) :
    (∀ i : Nat, i < μ.m.length → μ'.m[i]? = μ.m[i]?) ∧ (∀ a, μ'.out a → μ.out a) ∧ Le μ H μ H' ∧ RelS g μ H' (st'.take st.length) := by
  have hm : ∀ i : Nat, i < μ.m.length → μ'.m[i]? = μ.m[i]? := fun i hi => by
    rw [List.getElem?_eq_getElem hi]
    exact L.pre i _ (List.getElem?_eq_getElem hi)
  have ho : ∀ a, μ'.out a → μ.out a := fun a n => ⟨fun z => by
    obtain ⟨i, hi⟩ := List.mem_iff_getElem?.mp z
    exact n.1 (List.mem_of_getElem? (L.pre i a hi)), fun z => n.2 (by rw [L.hh]; exact z)⟩
  refine ⟨hm, ho, ⟨⟨fun _ _ h => h, fun a u n r t => ⟨n, (L.keep a u n r t).2⟩, L.keepL⟩, rfl, L.hk⟩, ⟨?_, S.nd, fun a ha => ?_, fun n a so h1 h2 => ?_, S'.tabs⟩⟩
  · rw [List.length_take, S.len]
    omega
  · obtain ⟨n, vs, e⟩ := S.hid a ha
    exact ⟨n, vs, (L.hk a ha).trans e⟩
  · have hn : n < st.length := by
      rw [← S.len]
      exact (List.getElem?_eq_some_iff.mp h1).1
    have hc2 := stCl_at hc h2
    rw [List.getElem?_take_of_lt hn] at h2
    exact soCl_rep hm ho (by rw [S.len]; exact hc2) (S'.at_ n a so (L.pre n a h1) h2)
theorem FnD.scope {j : Nat} {x : Str} {n : Nat} {f : List D → Store → R D} (F : FnD P w mg base g j x n f) : FnD P w mg base g j x n (trim f) := F.imp fun E Q μ H st ds vs S r q => by
  unfold trim at q
  generalize f ds st = rr at q ⊢
  cases rr with
  | bad => exact q
  | ex c st' =>
    have q : Post g (WB E) [] μ H (if stCl st.length (st'.take st.length) = true ∧ st.length ≤ st'.length then .ex c (st'.take st.length) else .bad) (VP g Q) := q
    split at q
    · rename_i hc
      intro μ' H' L S'
      obtain ⟨_, _, h3, h4⟩ := scope_ok S L S' hc.2 hc.1
      exact q μ H' h3 h4
    · exact q.elim
  | ok d st' =>
    have q : Post g (WB E) [] μ H (if (letGo st.length st' d).cl st.length = true ∧ stCl st.length (st'.take st.length) = true ∧ st.length ≤ st'.length then .ok (letGo st.length st' d) (st'.take st.length) else .bad) (VP g Q) := q
    split at q
    · rename_i hc
      intro μ' H' L S' v rv
      obtain ⟨h1, h2, h3, h4⟩ := scope_ok S L S' hc.2.2 hc.2.1
      refine q μ H' h3 h4 v ?_
      have hcl := hc.1
      revert hcl
      cases d with
      | ref m =>
        unfold letGo
        by_cases hm : st.length ≤ m
        · simp only [hm, if_true]
          cases e : lstAt st' m with
          | none => intro hcl; exact cl_rep h1 h2 (by rw [S.len]; exact hcl) rv
          | some es =>
            intro hcl
            obtain ⟨a, ea, ha⟩ := rv
            obtain ⟨ws, e2, r2⟩ := S'.at_ m a _ ha (lstAt_eq e)
            have hcl : D.cls st.length es = true := hcl
            refine ⟨a, ws, ea, ⟨⟨fun z => ?_, fun z => ?_⟩, e2⟩, cls_rep h1 h2 (by rw [S.len]; exact hcl) r2⟩
            · obtain ⟨i, hi⟩ := List.mem_iff_getElem?.mp z
              have := nodup_inj S'.nd (L.pre i a hi) ha
              have h9 := (List.getElem?_eq_some_iff.mp hi).1
              rw [S.len] at h9
              omega
            · exact (S'.hid a (by rw [L.hh]; exact z)).1 (List.mem_of_getElem? ha)
        · simp only [hm, if_false]
          intro hcl
          exact cl_rep h1 h2 (by rw [S.len]; exact hcl) rv
      | _ => intro hcl; exact cl_rep h1 h2 (by rw [S.len]; exact hcl) rv
    · exact q.elim
end

/-! ### raise -/
/-- an own exception class over ValueError -/
structure ExD (g : GC) (mg : Str → Option Value) (x : Str) : Prop where
  gC : mg x = some (.ref (g.ga x))
  xC : PySem.W.excIn g.K (g.ga x) [.type "ValueError", .type "Exception", .type "BaseException", .type "object"] "ValueError.__new__" = true
  kC : PySem.W.keepIn g.K (.ref (g.ga x)) = true
  bC : PySem.W.subIn g.K (.ref (g.ga x)) (.type "BaseException") = some true
  tC : PySem.W.typeIn g.K (.ref (g.ga x)) = some (.type "type")
def dRaise (x : Str) : DS := fun env st => .ex x env st
section
variable {X : Cx} {g : GC} {W : WX} {k : Nat} {pos : Pos}
theorem s_raise {x m : Str} {jj : Nat} {p p2 pos2 : Pos} (O : Ok X g W k) (T : ExD g X.mg x) (hg : Gl X x := by rfl) (hdb : (x == ("__debug__" : Str)) = false := by decide) : PSD X g W (.Raise (some (.Call (.Name x p) [.Constant (.str m) jj p2] [] pos2)) none pos) (dRaise x) :=
  PS.imp (ps_raise O.calm O.tk (pmk_own PySem.F.excBase_ValueError (by rw [O.hK]; exact T.xC) T.gC (by rw [O.hK]; exact T.kC) (raises_own (by rw [O.hK]; exact T.bC) (by rw [O.hK]; exact T.tC)) hg hdb)) fun Dn σ H ⟨μ, env, st, S, E, q⟩ => q μ H σ Le.refl S E

/-! ### try: body, except x: suite -/
def noEx (r : SR) : SR := match r with
  | .ex _ _ _ => .bad
  | r => r
def dTry (tb : List (Str × Bool)) (fb fs : DS) : DS := fun env st => match fb env st with
  | .ex c env st => (match tb.lookup c with
    | some true => noEx (fs env st)
    | some false => .ex c env st
    | none => .bad)
  | r => r
/-- which classes an except clause names -/
def Catches (g : GC) (x : Str) (tb : List (Str × Bool)) : Prop := ∀ p ∈ tb, PySem.W.exmOne g.K (.ref (g.ga p.1)) (.ref (g.ga x)) = some p.2
theorem lookup_mem {α : Type} : ∀ {l : List (Str × α)} {c : Str} {b : α}, l.lookup c = some b → (c, b) ∈ l
  | [], _, _, h => by cases h
  | (x, y) :: l, c, b, h => by
    rw [List.lookup_cons] at h
    cases e : c == x with
    | true =>
      rw [e] at h
      cases h
      rw [beq_iff_eq.mp e]
      exact List.mem_cons_self
    | false =>
      rw [e] at h
      exact List.mem_cons_of_mem _ (lookup_mem h)
theorem s_try {x : Str} {np pos' : Pos} {body suite : List Stmt} {b₀ : Stmt} {tb : List (Str × Bool)} {fb fs : DS} (O : Ok X g W k) (T : ExD g X.mg x) (C : Catches g x tb) (hs : X.stack = X.env :: X.outer) (hf : X.env.frame = some X.env.locals)
    (hb : ∀ (W' : WX) (pn : List (Addr × Obj)) (xe : Value → Shared → Prop), Ok (X.tr pn xe) g W' k → PSsD (X.tr pn xe) g W' body fb)
    (hsu : ∀ (a : Addr) (oe : Obj) (pn : List (Addr × Obj)), PSsD (X.suite a ((a, oe) :: pn)) g W0 (b₀ :: suite) fs) (hg : Gl X x := by rfl) (hdb : (x == ("__debug__" : Str)) = false := by decide) :
    PSD X g W (.Try body [.ExceptHandler (some (.Name x np)) none (b₀ :: suite) pos'] [] [] pos) (dTry tb fb fs) :=
  PS.imp (ps_try_only (tb := fun W' => tDS g W' fb) hs hf ⟨hg, hdb, .inl T.gC⟩ O.tk (fun W' pn xe tk hp => hb W' pn xe ⟨O.hK, tk, hp, O.calm, O.nd, O.room⟩) (fun a oe cls d pn _ _ => hsu a oe pn)) fun Dn σ H ⟨μ, env, st, S, E, q⟩ => by
    refine ⟨μ, env, st, S, E, ?_⟩
    unfold dTry at q
    generalize fb env st = r at q ⊢
    cases r with
    | ex c env1 st1 =>
      intro μ1 H1 σ1 L1 S1 E1
      have q : PostS g W μ H (match tb.lookup c with
        | some true => noEx (fs env1 st1)
        | some false => .ex c env1 st1
        | none => .bad) Dn := q
      cases e : tb.lookup c with
      | none => rw [e] at q; exact q.elim
      | some b =>
        rw [e] at q
        refine ⟨b, by rw [O.hK]; exact C _ (lookup_mem e), fun hb a ha => ?_, fun hb => ?_⟩
        · subst hb
          have q2 : PostS g W μ1 H1 (noEx (fs env1 st1)) Dn := PostS.le L1 q
          refine ⟨μ1, env1, st1, S1, E1, ?_⟩
          generalize fs env1 st1 = r at q2 ⊢
          cases r with
          | ex c env2 st2 => exact q2.elim
          | nx env1 st1 => exact q2
          | rt d st1 => exact q2
          | bk env1 st1 => exact q2
          | ct env1 st1 => exact q2
          | bad => exact q2
        · subst hb
          exact q μ1 H1 σ1 L1 S1 E1
    | nx env1 st1 => exact q
    | rt d st1 => exact q
    | bk env1 st1 => exact q
    | ct env1 st1 => exact q
    | bad => exact q
end
end G

namespace G
open PySem L2
/-! ### told(lambda: e) -/
/-- def x(a): try: return a() / except e: return ret -/
structure ToldF (g : GC) (mg : Str → Option Value) (x e ret : Str) (gA : Addr) (pg : Arguments) (bg : List Stmt) (sg : Scope) (kV doc pm cdv ct oc : Value) (an od : Option Addr) (osl : Array (Option Value)) (Ng : List Str) (a : Str) : Prop where
  gm : mg x = some (.ref gA)
  kp : PySem.W.keepIn g.K (.ref gA) = true
  lk : g.K.lookup gA = some ⟨oc, od, .func (PySem.W.fnOf x x pg bg sg .none kV doc pm an cdv ct), osl⟩
  cd : PySem.W.codeIn g.K cdv x = true
  bi : L2.Binds g.K (PySem.W.fnOf x x pg bg sg .none kV doc pm an cdv ct) [a] []
  sc : FnScope Ng [a] sg
  n0 : Ng[0]? = some a
  vi : Vis sg a
  st : ∀ f : Addr, (L2.start Ng [V.ref f])[0]? = some (some (V.ref f))
  bd : ∃ (jj : Nat) (p1 p2 p3 p4 p5 p6 p7 p8 : Pos), bg = [.Try [.Return (some (.Call (.Name a p1) [] [] p2)) p3] [.ExceptHandler (some (.Name e p4)) none [.Return (some (.Constant (.str ret) jj p5)) p6] p7] [] [] p8]
  ge : sg.names.lookup e = some .globalImplicit
  de : (e == ("__debug__" : Str)) = false
  da : (a == ("__debug__" : Str)) = false
  dc : (a == ("__classdict__" : Str)) = false
  dx : (x == ("__debug__" : Str)) = false
def ToldD (g : GC) (mg : Str → Option Value) (x e ret : Str) : Prop := ∃ gA pg bg sg kV doc pm cdv ct oc an od osl Ng a, ToldF g mg x e ret gA pg bg sg kV doc pm cdv ct oc an od osl Ng a
/-- the frame's code object has its table -/
def Lm (X : Cx) (g : GC) : Prop := ∃ c P, LamX.TabB X.base X.mg c P ∧ X.env.code = .ref c ∧ (P, X.env.qual ++ "<lambda>") ∈ g.T ∧ ∀ p ∈ g.T, p.1 = P → p.2 = X.env.qual ++ "<lambda>"
theorem ext_le {g : GC} {μ : Mp} {H H1 : Hp} {st : Store} (S : RelS g μ H st) (e : LamX.ExtN H H1) (T1 : LamX.Tabs g.T H1) : Le μ H μ H1 ∧ RelS g μ H1 st := by
  have L : Le μ H μ H1 := by
    refine ⟨⟨fun _ _ h => h, fun a u n r t => ⟨n, ?_⟩, fun a vs n h => e a _ h (by intro _ z; cases z)⟩, rfl, fun a ha => ?_⟩
    · rcases r with r | ⟨o, r⟩
      · exact .inl (e a u r t)
      · exact .inr ⟨o, e a _ r (by intro _ z; cases z)⟩
    · obtain ⟨_, vs, h⟩ := S.hid a ha
      exact (e a _ h (by intro _ z; cases z)).trans h.symm
  refine ⟨L, S.len, S.nd, fun a ha => ?_, fun n a so h1 h2 => ?_, T1⟩
  · obtain ⟨n, vs, h⟩ := S.hid a ha
    exact ⟨n, vs, (L.hk a ha).trans h⟩
  · have r := S.at_ n a so h1 h2
    obtain ⟨u, h, m⟩ := r.there
    exact r.move L.toLw ((e a u h (by intro _ z; rw [z] at m; exact m)).trans h.symm)
def dTold (tb : List Str) (ret : Str) (fe : DE) : DE := fun env st => match fe env st with
  | .ok d st => .ok d st
  | .ex c st => if tb.contains c = true then .ok (.str ret) st else .bad
  | .bad => .bad
section
variable {X : Cx} {g : GC} {W : WX} {k : Nat} {pos : Pos}
theorem pd_told {x e ret : Str} {params : Arguments} {body : Expr} {scope : Scope} {p lpos : Pos} {tb : List Str} {fe : DE} {j : Nat} (O : Ok X g W k) (M : Lm X g) (T : ToldD g X.mg x e ret) (ET : ExD g X.mg e) (C : Catches g e (tb.map fun c => (c, true))) (hj : j + 2 ≤ k)
    (hb : ∀ (A : Around) (outer : List PySem.Env) (s : Shared) (H : Hp) (E : XK) (f c' : Addr), Ok (LamX.lamCx X A outer s H E scope f c') g (WB E) j → PD (LamX.lamCx X A outer s H E scope f c') g (WB E) body fe)
    (hg : Gl X x := by rfl) (hl : LamX.lamSB X.env.scope scope = true := by rfl) (hdef : defaultsOf params X.env = ([], []) := by rfl)
    (hbind : ∀ (q : Str) (cl : List (Str × Addr)) (pm cv ctv : Value), bindArgs (PySem.W.kla_fn "<lambda>" q params body scope cl pm cv ctv) ⟨[], []⟩ = pure [] := by intros; rfl) : PD X g W (.Call (.Name x p) [.Lambda params body scope lpos] [] pos) (dTold tb ret fe) := by
  obtain ⟨gA, pg, bg, sg, kV, doc, pm, cdv, ct, oc, an, od, osl, Ng, a, T⟩ := T
  obtain ⟨c, P, TB, hcode, hmT, hu⟩ := M
  obtain ⟨jj, p1, p2, p3, p4, p5, p6, p7, p8, e1⟩ := T.bd
  subst e1
  have hK := O.hK
  refine PE.imp (LamX.pe_lamcall (T := g.T) (t := fun E => tDE g (WB E) fe) (k := j) hg T.gm (by rw [hK]; exact T.kp) (by rw [hK]; exact T.lk) (by rw [hK]; exact T.cd) (by rw [hK]; exact T.bi) T.sc T.n0 T.vi
    (LamX.told_gives T.ge ET.gC T.de T.st) TB hcode hmT hu (O.room.mono hj) (LamX.lamS_by hl) hdef hbind (fun A outer s H E f c' hr => hb A outer s H E f c' ⟨hK, takes_of rfl rfl rfl rfl, passes_of rfl, rfl, O.nd, hr⟩) T.dx T.da T.dc) fun σ H Q ⟨μ, env, st, S, E, q⟩ => ⟨S.tabs, fun H1 eN T1 => ?_⟩
  obtain ⟨L, S1⟩ := ext_le S eN T1
  refine ⟨μ, env, st, S1, E.le L, ?_⟩
  have q := Post.le L q
  unfold dTold at q
  generalize fe env st = r at q ⊢
  cases r with
  | ok d st1 => exact q
  | bad => exact q
  | ex cc st1 =>
    have q : Post g W σ μ H1 (if tb.contains cc = true then .ok (.str ret) st1 else .bad) (VP g Q) := q
    split at q
    · rename_i hc
      intro μ2 H2 Lb S2
      have hm : cc ∈ tb := by
        rw [List.contains_iff_mem] at hc
        exact hc
      refine ⟨true, by rw [hK]; exact C (cc, true) (List.mem_map.mpr ⟨cc, hm, rfl⟩), fun _ => ?_, fun z => nomatch z⟩
      exact q μ2 H2 Lb S2 _ rfl
    · exact q.elim
end
end G

namespace G
open PySem L2 PyProof.Rows
/-! ### lambdas that capture nothing, as values -/
theorem lamO_at {P : Program} {w : World} {H : Hp} {h : Heap} {f c : Addr} {l : LamI} {pm ctv : Value} (e : h.get? f = some (PySem.W.kla_obj "<lambda>" l.qual l.params l.body l.scope [] pm c ctv)) : ObjOk P w H h f (LamO f c l pm ctv) := ⟨e, ⟨_, e⟩, fun h1 h2 q st => st _ q⟩
theorem lamO_ne {f c : Addr} {l : LamI} {pm ctv : Value} (ps : Array Value) : LamO f c l pm ctv ≠ .tbl ps := fun z => by
  unfold LamO at z
  cases z
section
variable {X : Cx} {pins : List (Addr × Obj)} {σ : L2.St} {H : Hp} {s : Shared} {g : GC} {W : WX} {k : Nat} {pos : Pos}
theorem tabs_new {T : List (Addr × Str)} {H : Hp} {p : Addr} {o : HO} (t : LamX.Tabs T H) (hp : H p = none) : LamX.Tabs T (upd H p o) := t.ext (ext_new hp)
/-- the lambda is made, and known from now on -/
theorem lam_new {c P : Addr} {l : LamI} {E : Value → Shared → Prop} {Q : Value → Shared → Prop} (I : Inv X pins σ H s) (TB : LamX.TabB X.base X.mg c P) (hcode : X.env.code = .ref c)
    (hm : (P, X.env.qual ++ "<lambda>") ∈ g.T) (hu : ∀ p ∈ g.T, p.1 = P → p.2 = X.env.qual ++ "<lambda>") (hT : LamX.Tabs g.T H) (hq : l.qual = X.env.qual ++ "<lambda>") (hdef : defaultsOf l.params X.env = ([], [])) (hcl : closureFor l.scope X.env = pure [])
    (h : ∀ (f c' : Addr) (pm ctv : Value) (H1 : Hp) (s' : Shared), LamX.ExtN H H1 → LamX.Tabs g.T H1 → H1 f = none → H1 c' = some (LamX.CodeO c' l.qual) → (∀ b, H1 b = none → H b = none) → Inv X pins σ (upd H1 f (LamO f c' l pm ctv)) s' → Q (.ref f) s') :
    wpAny (model X.prog X.w) X.A (eval (.Lambda l.params l.body l.scope pos) X.env) Q E s := by
  obtain ⟨ps, hP, ht, ha⟩ := hT _ hm
  have bP : s.heap.BuiltinsAt X.mg P := TB.bm.keeps I.bk
  have hP' : s.heap.get? P = some { cls := .none, data := .fields ps } := I.hok P _ hP
  have gl : s.heap.Ns mainGlobals X.mg := I.mod.glob.keeps I.bk
  refine PySem.W.kla_eval hdef ?_
  rw [← hq] at hm hu ha ⊢
  cases hc : codeAmong pos ps.toList with
  | some cv =>
    obtain ⟨c', ec, hco⟩ := ha pos cv hc
    subst ec
    refine PySem.W.kla_makeFunctionHit (mg := X.mg) (c := c) (P := P) (ps := ps) hcl I.ok.glob gl hcode (TB.code.keeps I.bk) hP' ht hc bP fun ctv h1 tk kp hsz => ?_
    have I0 : Inv X pins σ H { s with heap := h1, toks := tk } := I.kept kp
    have I1 := I0.laid (a := h1.objs.size) (o := LamO h1.objs.size c' l ((X.mg "__name__").getD .none) ctv) (t' := tk) (h' := h1.push (PySem.W.kla_obj "<lambda>" l.qual l.params l.body l.scope [] ((X.mg "__name__").getD .none) c' ctv)) (fun b o e => Heap.get?_push_of_some _ e) (Nat.le_refl _) (lamO_at (Heap.get?_push_size _ rfl))
    exact h h1.objs.size c' ((X.mg "__name__").getD .none) ctv H _ (LamX.ExtN.refl H) hT (I0.hok.fresh (Nat.le_refl _)) hco (fun _ n => n) I1
  | none =>
    refine PySem.W.kla_makeFunction (mg := X.mg) (c := c) (P := P) (ps := ps) hcl I.ok.glob gl hcode (TB.code.keeps I.bk) hP' ht hc TB.gP bP fun c' ctv h1 tk hx hge hlt hrec htb => ?_
    obtain ⟨c2, oc, vs, t, e2, hoc, hd, hv⟩ := hrec
    cases e2
    have nC : H c' = none := I.hok.fresh hge
    have nPc : P ≠ c' := ne_of_none hP nC
    have I0 : Inv X pins σ (upd (upd H P (.tbl (ps ++ #[rawInt pos.line, rawInt pos.col, .ref c']))) c' (LamX.CodeO c' l.qual)) { s with heap := h1, toks := tk } :=
      LamX.inv_table I hP (fun b o hb e => hx b o hb e) htb hge ⟨oc, vs, t, hoc, hd, hv⟩
    have hE : LamX.ExtN H (upd (upd H P (.tbl (ps ++ #[rawInt pos.line, rawInt pos.col, .ref c']))) c' (LamX.CodeO c' l.qual)) := fun b o e n => by
      have b1 : b ≠ c' := ne_of_none e nC
      have b2 : b ≠ P := fun z => n ps (Option.some.inj (e.symm.trans (by rw [z]; exact hP)))
      rw [L2.upd_ne b1, L2.upd_ne b2]
      exact e
    have eL : (ps ++ #[rawInt pos.line, rawInt pos.col, Value.ref c']).toList = ps.toList ++ [rawInt pos.line, rawInt pos.col, .ref c'] := by simp
    have T1 : LamX.Tabs g.T (upd (upd H P (.tbl (ps ++ #[rawInt pos.line, rawInt pos.col, .ref c']))) c' (LamX.CodeO c' l.qual)) := fun p hp => by
      by_cases hb : p.1 = P
      · rw [hu p hp hb, hb]
        refine ⟨_, (L2.upd_ne nPc).trans upd_same, ?_, fun p' cv hcv => ?_⟩
        · rw [eL]
          exact PySem.TriplesOk_snoc _ _ _ _ ht
        · rw [eL] at hcv
          rcases LamX.among_app _ ht hcv with z | z
          · obtain ⟨c0, z1, z2⟩ := ha p' cv z
            exact ⟨c0, z1, hE _ _ z2 LamX.codeO_ne⟩
          · exact ⟨c', z, upd_same⟩
      · obtain ⟨qs, a1, a2, a3⟩ := hT p hp
        have n1 : p.1 ≠ c' := ne_of_none a1 nC
        refine ⟨qs, by rw [L2.upd_ne n1, L2.upd_ne hb]; exact a1, a2, fun p' cv hcv => ?_⟩
        obtain ⟨c0, z1, z2⟩ := a3 p' cv hcv
        exact ⟨c0, z1, hE _ _ z2 LamX.codeO_ne⟩
    have I1 := I0.laid (a := h1.objs.size) (o := LamO h1.objs.size c' l ((X.mg "__name__").getD .none) ctv) (t' := tk) (h' := h1.push (PySem.W.kla_obj "<lambda>" l.qual l.params l.body l.scope [] ((X.mg "__name__").getD .none) c' ctv)) (fun b o e => Heap.get?_push_of_some _ e) (Nat.le_refl _) (lamO_at (Heap.get?_push_size _ rfl))
    refine h h1.objs.size c' ((X.mg "__name__").getD .none) ctv _ _ hE T1 (I0.hok.fresh (Nat.le_refl _)) upd_same (fun b n => ?_) I1
    cases q : H b with
    | none => rfl
    | some u =>
      by_cases b1 : b = c'
      · rw [b1, upd_same] at n; cases n
      · rw [L2.upd_ne b1] at n
        by_cases b2 : b = P
        · rw [b2, upd_same] at n; cases n
        · rw [L2.upd_ne b2, q] at n; cases n
def dLam (n : Nat) : DE := fun _ st => .ok (.lam n) st
theorem pd_lam (n : Nat) {l : LamI} (M : Lm X g) (hn : g.lam n = some l) (hq : l.qual = X.env.qual ++ "<lambda>" := by rfl) (hdef : defaultsOf l.params X.env = ([], []) := by rfl) (hcl : closureFor l.scope X.env = pure [] := by rfl) : PD X g W (.Lambda l.params l.body l.scope pos) (dLam n) := by
  obtain ⟨c, P, TB, hcode, hmT, hu⟩ := M
  refine ⟨fun pins s σ H Q I ⟨μ, env, st, S, E, q⟩ => ?_⟩
  refine lam_new I TB hcode hmT hu S.tabs hq hdef hcl fun f c' pm ctv H1 s' eN T1 nf hc nb I1 => ?_
  obtain ⟨L1, S1⟩ := ext_le S eN T1
  have L2' := le_new (o := LamO f c' l pm ctv) S1 nf
  refine ⟨.ref f, _, I1, rfl, ?_⟩
  refine q μ _ (L1.trans L2') (S1.frz nf) _ ⟨f, c', l, pm, ctv, rfl, hn, ⟨S1.out nf, .inl upd_same⟩, ?_, Rd.upd_ne (.inl hc) (ne_of_none hc nf)⟩
  -- the code object is nobody's
  have m1 : ∀ a ∈ μ.m, ∃ u, H1 a = some u ∧ Mut (some u) ∧ ∀ φ, u ≠ .ext φ := fun a ha => by
    obtain ⟨n, hn⟩ := List.mem_iff_getElem?.mp ha
    have hl : n < st.length := by
      rw [← S1.len]
      exact (List.getElem?_eq_some_iff.mp hn).1
    have r := S1.at_ n a _ hn (List.getElem?_eq_getElem hl)
    cases h10 : st[n] with
    | lst ds => rw [h10] at r; obtain ⟨vs, e, _⟩ := r; exact ⟨_, e, trivial, fun φ z => by cases z⟩
    | dic ks ds =>
      rw [h10] at r
      obtain ⟨vs, o, e, d, _⟩ := r
      rcases d with ⟨_, _, d⟩ | ⟨_, _, d⟩ <;> exact ⟨o, e, by rw [d]; trivial, fun φ z => by rw [d] at z; cases z⟩
    | ins C fs => rw [h10] at r; obtain ⟨dx, gs, e, _⟩ := r; exact ⟨_, e, trivial, fun φ z => by cases z⟩
  refine ⟨fun z => ?_, fun z => ?_⟩
  · obtain ⟨u, e, _, ne⟩ := m1 _ z
    rw [hc] at e
    cases e
    exact ne _ rfl
  · obtain ⟨_, vs, e⟩ := S1.hid _ z
    rw [hc] at e
    unfold LamX.CodeO at e
    cases e

/-! ### such a lambda is called by a local name -/
abbrev lamEnv0 (l : LamI) (L f c : Addr) : PySem.Env := PySem.W.envX l.qual l.scope L f (.ref c) []
/-- the context of its body -/
def lamCx0 (P : Program) (w : World) (K : PySem.W.Frag) (mg : Str → Option Value) (base : Heap) (l : LamI) (A : Around) (outer : List PySem.Env) (s : Shared) (H : Hp) (E : XK) (f c : Addr) : Cx where
  prog := P
  w := w
  K := K
  mg := mg
  base := base
  A := A.deeper (lamEnv0 l s.heap.objs.size f c)
  N := []
  s_0 := s
  H_0 := H
  env := lamEnv0 l s.heap.objs.size f c
  outer := outer
  stack := lamEnv0 l s.heap.objs.size f c :: outer
  ex := []
  fn := fun _ => false
  calm := true
  pn := []
  xe := fun e s' => wpAny (model P w) (A.deeper (lamEnv0 l s.heap.objs.size f c)) (leaving (lamEnv0 l s.heap.objs.size f c) e) (fun _ s'' => L2.CX P w outer H s E e s'') (fun e' s'' => L2.CX P w outer H s E e' s'') s'
structure LamOk (l : LamI) : Prop where
  kind : l.scope.kind = .function
  co : l.scope.isCoroutine = false
  gen : l.scope.isGenerator = false
  own : ∀ y ∈ l.scope.names, y.2 ≠ .local ∧ y.2 ≠ .cell ∧ y.2 ≠ .free
  bind : ∀ (q : Str) (cl : List (Str × Addr)) (pm cv ctv : Value), bindArgs (PySem.W.kla_fn "<lambda>" q l.params l.body l.scope cl pm cv ctv) ⟨[], []⟩ = pure []
/-- what the lambdas of the text do -/
def LamsOk (P : Program) (w : World) (mg : Str → Option Value) (base : Heap) (g : GC) (j : Nat) (tab : Nat → Store → R D) : Prop :=
  ∀ n l, g.lam n = some l → LamOk l ∧ ∀ (A : Around) (outer : List PySem.Env) (s : Shared) (H : Hp) (E : XK) (f c : Addr), Ok (lamCx0 P w g.K mg base l A outer s H E f c) g (WB E) j → PD (lamCx0 P w g.K mg base l A outer s H E f c) g (WB E) l.body (fun _ st => tab n st)
theorem lam_start0 {l : LamI} {A : Around} {outer : List PySem.Env} {P : Program} {w : World} {K : PySem.W.Frag} {mg : Str → Option Value} {base : Heap} {E : XK} {f c : Addr} {s1 : Shared} {H : Hp} {h₁ : Heap} {tk : Nat} (L : LamOk l) (e0 : Env0 P w K mg base A outer s1 H) (hd : A.handled = none)
    (hns : h₁.Ns s1.heap.objs.size fun y => ([] : List (Str × Value)).reverse.lookup y) (kp : ∀ b o, s1.heap.get? b = some o → h₁.get? b = some o) :
    Inv (lamCx0 P w K mg base l A outer s1 H E f c) [] [] H { s1 with heap := h₁, toks := tk } := by
  have noA : ∀ b : Addr, b ∉ (lamCx0 P w K mg base l A outer s1 H E f c).ex := fun b z => absurd (show b ∈ ([] : List Addr) from z) (by simp)
  have noC : ∀ {x : Str} {a : Addr}, (lamCx0 P w K mg base l A outer s1 H E f c).env.cells.lookup x = some a → False := fun {x a} z => by
    have z : ([] : List (Str × Addr)).lookup x = some a := z
    cases z
  have noK : ∀ {x : Str} {q : NameKind}, l.scope.names.lookup x = some q → q ≠ .local ∧ q ≠ .cell ∧ q ≠ .free := fun h => L.own _ (PySem.mem_of_lookup h)
  refine
    { ok := { mod := e0.mod, kind := L.kind, glob := rfl, blt := rfl, above := Nat.le_refl _, inj := fun x y a z => (noC z).elim, has := fun x hx => ?_, cab := fun x a _ z => (noC z).elim, hd := fun _ => hd, frames := Around.frames_deeper e0.frames, stk := .inr ⟨rfl, rfl⟩, exf := fun b z => absurd z (noA b),
              bs := e0.bs, bsz := e0.bsz, noex := fun b _ _ => noA b, exfs := fun b z => absurd z (noA b), funs := e0.funs, frf := e0.frf }
      os := rfl, bare := e0.bare, base := Un.kept kp, loc := ⟨_, hns, fun i y v h1 _ _ => ?_⟩, cell := fun x a z => (noC z).elim, free := e0.hok.fresh (Nat.le_refl _), freeC := fun x a z => (noC z).elim, pin := fun p hp => absurd (show p ∈ ([] : List (Addr × Obj)) ++ [] from hp) (by simp), hok := e0.hok.kept kp, len := rfl }
  · have hx : l.scope.names.lookup x = some .cell ∨ l.scope.names.lookup x = some .free := hx
    rcases hx with z | z
    · exact absurd rfl (noK z).2.1
    · exact absurd rfl (noK z).2.2
  · have h1 : ([] : List Str)[i]? = some y := h1
    simp at h1
def dCallLam (tab : Nat → Store → R D) (i : Nat) : DE := fun env st => match env[i]? with
  | some (some (.lam n)) => tab n st
  | _ => .bad
theorem pd_callLam (i : Nat) {a : Str} {p1 p2 : Pos} {tab : Nat → Store → R D} {j : Nat} (O : Ok X g W k) (F : LamsOk X.prog X.w X.mg X.base g j tab) (hj : j + 1 ≤ k) (hN : X.N[i]? = some a := by rfl) (hv : Vis X.env.scope a := by first | exact Or.inl rfl | exact Or.inr (Or.inl rfl) | exact Or.inr (Or.inr rfl))
    (hd : (a == ("__debug__" : Str)) = false := by decide) (hcd : (a == ("__classdict__" : Str)) = false := by decide) : PD X g W (.Call (.Name a p1) [] [] p2) (dCallLam tab i) := by
  refine ⟨fun pins s σ H Q I ⟨μ, env, st, S, E, q⟩ => ?_⟩
  unfold dCallLam at q
  split at q
  · rename_i n he
    obtain ⟨v, hs, f, c, l, pm, ctv, ev, hl, ⟨_, hf⟩, _, hc⟩ := E.at_ i _ he
    subst ev
    refine wpAny_Call_Name_kw (thn ((pe_var (pos := p1) (i := i) hN hv hd hcd).run pins s σ H (fun v H1 => v = .ref f ∧ H1 = H) I ⟨.ref f, hs, rfl, rfl⟩) fun u s1 h1 => ?_)
    obtain ⟨v, H1, I1, r1, ev, eH⟩ := h1
    subst ev eH
    obtain rfl : u = Value.ref f := r1
    have of1 : s1.heap.get? f = some (PySem.W.kla_obj "<lambda>" l.qual l.params l.body l.scope [] pm c ctv) := (hf.ok I1.hok).1
    obtain ⟨⟨oc, vs, t, hoc, hdc, hvc⟩, _, _⟩ := hc.ok I1.hok
    obtain ⟨lo, body⟩ := F n l hl
    refine PySem.W.callWith_F0 ⟨_, _, _, _, of1⟩ ?_
    have hr := O.room.mono hj
    have rc : codeAny (model X.prog X.w) X.A (.call (.ref f) ⟨[], []⟩) (CR (L2.CX X.prog X.w) X.stack X.prog X.w H1 s1 Q (WE W σ)) s1 := by
      refine PySem.W.kla_callFunE hr.depth of1 rfl lo.co lo.gen rfl ⟨c, oc, vs, t, rfl, hoc, hdc, hvc⟩ ?_
      rw [lo.bind]
      refine wpAny_pure (wpAny_newFunctionEnv (fun y hy => (lo.own y hy).2.1) (fun y hy => absurd hy (by simp)) (fun h₁ hns hsb => ⟨I1.nolimit.fresh _ hsb, ?_⟩) lo.kind)
      show codeAny _ _ (.expr l.body (lamEnv0 l s1.heap.objs.size f c)) _ _
      have kp : ∀ b o, s1.heap.get? b = some o → h₁.get? b = some o := fun b o e => hsb.extBut b o (Nat.ne_of_lt (Heap.lt_size e)) (Heap.get?_push_of_some _ e)
      have J : Inv (lamCx0 X.prog X.w X.K X.mg X.base l X.A X.stack s1 H1 (WE W σ) f c) [] [] H1 { s1 with heap := h₁, toks := s1.toks + ([] : List (Str × Value)).length } := lam_start0 lo I1.env0 hr.hd hns kp
      have hK := O.hK
      have O2 : Ok (lamCx0 X.prog X.w X.K X.mg X.base l X.A X.stack s1 H1 (WE W σ) f c) g (WB (WE W σ)) j := ⟨hK, takes_of rfl rfl rfl rfl, passes_of rfl, rfl, List.nodup_nil, hr.deeper _⟩
      have pd : PD (lamCx0 X.prog X.w X.K X.mg X.base l X.A X.stack s1 H1 (WE W σ) f c) g (WB (WE W σ)) l.body (fun _ st => tab n st) := by
        revert O2
        rw [hK]
        exact fun O2 => body X.A X.stack s1 H1 (WE W σ) f c O2
      refine PySem.W.kla_codeExpr (wpAny_mono (pd.run [] _ [] H1 Q J ⟨μ, [], st, S, ⟨rfl, fun i d h => by simp at h⟩, ?_⟩) (fun v s' hq => ?_) fun e s' hq => hq)
      · show Post g (WB (WE W σ)) [] μ H1 (tab n st) (VP g Q)
        generalize tab n st = rr at q ⊢
        cases rr with
        | ok d st' => exact q
        | ex c st' => exact q
        | bad => exact q
      · obtain ⟨w', H', J', rv, qq⟩ := hq
        exact ⟨w', H', J'.os, J'.bare, J'.base, J'.hok, rv, qq⟩
    refine wpAny_call (codeAny_mono rc fun r s' hq => ?_)
    cases r with
    | error e => exact passAt O.tk σ pins H1 s1 e s' I1 hq
    | ok fl =>
      cases fl with
      | ret u => exact I1.after hq
      | next => exact False.elim hq
      | brk => exact False.elim hq
      | cont => exact False.elim hq
  · exact q.elim
end
end G

namespace G
open PySem L2
/-! ### the defs of a text -/
/-- x is the def st of the parameters ps -/
def DefD (g : GC) (mg : Str → Option Value) (x : Str) (st : Stmt) (ps : List Str) : Prop := ∃ (fa : Addr) (fd : FuncData), Fun g.K x x st fa fd ∧ mg x = some (.ref fa) ∧ Binds g.K fd ps []
/-- .. and its code object and table are told -/
def DefL (g : GC) (mg : Str → Option Value) (x : Str) (st : Stmt) (ps : List Str) : Prop := ∃ (fa : Addr) (oc kV doc pm ct : Value) (od an : Option Addr) (osl : Array (Option Value)),
  g.K.lookup fa = some ⟨oc, od, .func (PySem.W.fnOf x x (defArgs st) (defBody st) (defScope st) .none kV doc pm an (.ref (g.cp x).1) ct), osl⟩ ∧ PySem.W.codeIn g.K (.ref (g.cp x).1) x = true ∧ PySem.W.keepIn g.K (.ref fa) = true ∧ mg x = some (.ref fa) ∧
  Binds g.K (PySem.W.fnOf x x (defArgs st) (defBody st) (defScope st) .none kV doc pm an (.ref (g.cp x).1) ct) ps []
section
variable {P : Program} {w : World} {mg : Str → Option Value} {base : Heap} {g : GC}
theorem fn_D {x : Str} {st : Stmt} {N ps : List Str} {j n : Nat} {fb : DS} (F : DefD g mg x st ps) (S : FnScope N ps (defScope st)) (hn : ps.length = n)
    (body : ∀ (fa : Addr) (cdv : Value) (A : Around) (outer : List PySem.Env) (s : Shared) (H : Hp) (E : XK), Ok (bodyCx P w g.K mg base N x (defScope st) fa cdv A outer s H E) g (WB E) j → PSsD (bodyCx P w g.K mg base N x (defScope st) fa cdv A outer s H E) g (WB E) (defBody st) fb) :
    FnD P w mg base g (j + 1) x n (runB N.length fb) := by
  obtain ⟨fa, fd, F, hm, hb⟩ := F
  exact fn_d F hm S hb hn (body fa)
theorem fn_L {x : Str} {st : Stmt} {N ps : List Str} {j n : Nat} {fb : DS} (F : DefL g mg x st ps) (B : LamX.TabB base mg (g.cp x).1 (g.cp x).2) (mT : ((g.cp x).2, (x ++ ".<locals>.") ++ "<lambda>") ∈ g.T) (hu : ∀ p ∈ g.T, p.1 = (g.cp x).2 → p.2 = (x ++ ".<locals>.") ++ "<lambda>") (S : FnScope N ps (defScope st)) (hn : ps.length = n)
    (body : ∀ (fa : Addr) (cdv : Value) (A : Around) (outer : List PySem.Env) (s : Shared) (H : Hp) (E : XK), Ok (bodyCx P w g.K mg base N x (defScope st) fa cdv A outer s H E) g (WB E) j → Lm (bodyCx P w g.K mg base N x (defScope st) fa cdv A outer s H E) g → PSsD (bodyCx P w g.K mg base N x (defScope st) fa cdv A outer s H E) g (WB E) (defBody st) fb) :
    FnD P w mg base g (j + 1) x n (runB N.length fb) := by
  obtain ⟨fa, oc, kV, doc, pm, ct, od, an, osl, lk, hcd, kp, hm, hb⟩ := F
  refine ⟨fa, _, ps, hm, kp, hb, fn_of lk hcd S (fun vs H Q E h => h.1.trans hn.symm) fun A outer s H vs Q E hr h => ⟨_, body fa (.ref (g.cp x).1) A outer s H E ⟨rfl, takes_of rfl rfl rfl rfl, passes_of rfl, rfl, S.nd, hr⟩ ⟨_, _, B, rfl, mT, hu⟩, ?_⟩⟩
  obtain ⟨hl, μ, st0, ds, S0, r, q⟩ := h
  refine ⟨μ, _, st0, S0, reps_env r N.length, ?_⟩
  unfold runB at q
  generalize fb (ds.map some ++ List.replicate (N.length - ds.length) none) st0 = rr at q ⊢
  cases rr with
  | nx env st1 => exact fun μ' H' σ' L S' _ => q μ' H' L S' _ rfl
  | rt d st1 => exact fun μ' H' v L S' rv => q μ' H' L S' v rv
  | bk env st1 => exact q.elim
  | ct env st1 => exact q.elim
  | ex c env st1 => exact fun μ' H' σ' L S' _ => q μ' H' L S'
  | bad => exact q.elim
/-- nothing is promised -/
theorem fn_bad {x : Str} {st : Stmt} {ps : List Str} {j n : Nat} (F : DefD g mg x st ps) (hn : ps.length = n) : FnD P w mg base g j x n (fun _ _ => .bad) := by
  obtain ⟨fa, fd, F, hm, hb⟩ := F
  exact ⟨fa, fd, ps, hm, F.kp, hb, fun vs H Q E h => h.1.trans hn.symm, fun A outer s H args us vs Q E _ _ _ _ h => by
    obtain ⟨_, _, _, _, _, _, q⟩ := h
    exact q.elim⟩
/-- a def that calls itself, n deep -/
theorem fn_rec {x : Str} {st : Stmt} {ps : List Str} {j n : Nat} {N : List Str} {fb : (List D → Store → R D) → DS} (F : DefD g mg x st ps) (hn : ps.length = n) (f : Nat → List D → Store → R D) (f0 : f 0 = fun _ _ => .bad) (fs : ∀ m, f (m + 1) = runB N.length (fb (f m)))
    (step : ∀ m, FnD P w mg base g (j + m) x n (f m) → FnD P w mg base g (j + m + 1) x n (runB N.length (fb (f m)))) : ∀ m, FnD P w mg base g (j + m) x n (f m)
  | 0 => by rw [f0]; exact fn_bad F hn
  | m + 1 => by rw [fs]; exact step m (fn_rec F hn f f0 fs step m)
end
section
variable {X : Cx} {g : GC} {W : WX} {k : Nat} {pos : Pos}
theorem pd_call0 {x : Str} {p : Pos} {j : Nat} {f : List D → Store → R D} (O : Ok X g W k) (F : FnD X.prog X.w X.mg X.base g j x 0 f) (hj : j ≤ k) (hg : Gl X x := by rfl) (hdb : (x == ("__debug__" : Str)) = false := by decide) : PD X g W (.Call (.Name x p) [] [] pos) (dCall f dNil) := by
  obtain ⟨fA, fd, ps, h1, h2, h3, h4⟩ := F
  rw [← O.hK] at h2 h3 h4
  refine ⟨fun pins s σ H Q I ⟨μ, env, st, S, E, h⟩ => ?_⟩
  refine wpAny_Call_Name_kw (ld_glob I hg h1 ?_ hdb)
  refine PySem.W.callWith_K0 I.kIn h2 (run_fnS (us := []) (vs := []) (E := fun σ => WE W σ) h4 (O.room.mono hj) h3 (passAt O.tk σ) I .nil ⟨rfl, μ, st, [], S, rfl, ?_⟩)
  have h : Post g W σ μ H (f [] st) (VP g Q) := h
  generalize f [] st = r at h ⊢
  cases r with
  | ok d st2 => exact h
  | ex c st2 => exact h
  | bad => exact h
end
/-! ### the lambdas of the text -/
def listElt (s : Stmt) (i : Nat) : Expr := match s with
  | .Assign _ (.List es _) _ => es.getD i (.Constant .none 0 ⟨0, 0, 0, 0⟩)
  | _ => .Constant .none 0 ⟨0, 0, 0, 0⟩
def lamI (q : Str) (e : Expr) : LamI := match e with
  | .Lambda p b s _ => ⟨q, p, b, s⟩
  | e => ⟨q, { posonlyargs := [], args := [], vararg := none, kwonlyargs := [], kw_defaults := [], kwarg := none, defaults := [] }, e, { kind := .function, names := [], isGenerator := false, isCoroutine := false }⟩
def lamOkB (l : LamI) : Bool := (match l.scope.kind with | .function => true | _ => false) && !l.scope.isCoroutine && !l.scope.isGenerator && l.scope.names.all fun y => match y.2 with
  | .local => false
  | .cell => false
  | .free => false
  | _ => true
theorem lamOk_by {l : LamI} (h : lamOkB l = true) (hb : ∀ (q : Str) (cl : List (Str × Addr)) (pm cv ctv : Value), bindArgs (PySem.W.kla_fn "<lambda>" q l.params l.body l.scope cl pm cv ctv) ⟨[], []⟩ = pure []) : LamOk l := by
  unfold lamOkB at h
  simp only [Bool.and_eq_true, Bool.not_eq_true', List.all_eq_true] at h
  obtain ⟨⟨⟨h1, h2⟩, h3⟩, h4⟩ := h
  refine ⟨?_, h2, h3, fun y hy => ?_, hb⟩
  · split at h1
    · assumption
    · cases h1
  · have q := h4 y hy
    refine ⟨fun z => ?_, fun z => ?_, fun z => ?_⟩ <;> (rw [z] at q; cases q)
end G

namespace G
open PySem L2
/-! ### the end -/
section
variable {P : Program} {w : World} {mg : Str → Option Value} {base h : Heap} {g : GC} {K : PySem.W.Frag}
theorem ok_L {x : Str} {st : Stmt} {N ps : List Str} {j n : Nat} {fb : DS} {fa : Addr} {oc kV doc pm ct : Value} {od an : Option Addr} {osl : Array (Option Value)}
    (lk : g.K.lookup fa = some ⟨oc, od, .func (PySem.W.fnOf x x (defArgs st) (defBody st) (defScope st) .none kV doc pm an (.ref (g.cp x).1) ct), osl⟩) (hcd : PySem.W.codeIn g.K (.ref (g.cp x).1) x = true)
    (B : LamX.TabB base mg (g.cp x).1 (g.cp x).2) (mT : ((g.cp x).2, (x ++ ".<locals>.") ++ "<lambda>") ∈ g.T) (hu : ∀ p ∈ g.T, p.1 = (g.cp x).2 → p.2 = (x ++ ".<locals>.") ++ "<lambda>") (S : FnScope N ps (defScope st)) (hn : ps.length = n)
    (body : ∀ (A : Around) (outer : List PySem.Env) (s : Shared) (H : Hp) (E : XK), Ok (bodyCx P w g.K mg base N x (defScope st) fa (.ref (g.cp x).1) A outer s H E) g (WB E) j → Lm (bodyCx P w g.K mg base N x (defScope st) fa (.ref (g.cp x).1) A outer s H E) g → PSsD (bodyCx P w g.K mg base N x (defScope st) fa (.ref (g.cp x).1) A outer s H E) g (WB E) (defBody st) fb) :
    FnOk P w g.K mg base (L2.CX P w) (j + 1) fa (PySem.W.fnOf x x (defArgs st) (defBody st) (defScope st) .none kV doc pm an (.ref (g.cp x).1) ct) ps (spD g n (runB N.length fb)) := by
  refine fn_of lk hcd S (fun vs H Q E h => h.1.trans hn.symm) fun A outer s H vs Q E hr h => ⟨_, body A outer s H E ⟨rfl, takes_of rfl rfl rfl rfl, passes_of rfl, rfl, S.nd, hr⟩ ⟨_, _, B, rfl, mT, hu⟩, ?_⟩
  obtain ⟨hl, μ, st0, ds, S0, r, q⟩ := h
  refine ⟨μ, _, st0, S0, reps_env r N.length, ?_⟩
  unfold runB at q
  generalize fb (ds.map some ++ List.replicate (N.length - ds.length) none) st0 = rr at q ⊢
  cases rr with
  | nx env st1 => exact fun μ' H' σ' L S' _ => q μ' H' L S' _ rfl
  | rt d st1 => exact fun μ' H' v L S' rv => q μ' H' L S' v rv
  | bk env st1 => exact q.elim
  | ct env st1 => exact q.elim
  | ex c env st1 => exact fun μ' H' σ' L S' _ => q μ' H' L S'
  | bad => exact q.elim
theorem ok_D {x : Str} {st : Stmt} {N ps : List Str} {j n : Nat} {fb : DS} {fa : Addr} {oc kV doc pm cdv ct : Value} {od an : Option Addr} {osl : Array (Option Value)}
    (lk : g.K.lookup fa = some ⟨oc, od, .func (PySem.W.fnOf x x (defArgs st) (defBody st) (defScope st) .none kV doc pm an cdv ct), osl⟩) (hcd : PySem.W.codeIn g.K cdv x = true)
    (S : FnScope N ps (defScope st)) (hn : ps.length = n)
    (body : ∀ (A : Around) (outer : List PySem.Env) (s : Shared) (H : Hp) (E : XK), Ok (bodyCx P w g.K mg base N x (defScope st) fa cdv A outer s H E) g (WB E) j → PSsD (bodyCx P w g.K mg base N x (defScope st) fa cdv A outer s H E) g (WB E) (defBody st) fb) :
    FnOk P w g.K mg base (L2.CX P w) (j + 1) fa (PySem.W.fnOf x x (defArgs st) (defBody st) (defScope st) .none kV doc pm an cdv ct) ps (spD g n (runB N.length fb)) := by
  refine fn_of lk hcd S (fun vs H Q E h => h.1.trans hn.symm) fun A outer s H vs Q E hr h => ⟨_, body A outer s H E ⟨rfl, takes_of rfl rfl rfl rfl, passes_of rfl, rfl, S.nd, hr⟩, ?_⟩
  obtain ⟨hl, μ, st0, ds, S0, r, q⟩ := h
  refine ⟨μ, _, st0, S0, reps_env r N.length, ?_⟩
  unfold runB at q
  generalize fb (ds.map some ++ List.replicate (N.length - ds.length) none) st0 = rr at q ⊢
  cases rr with
  | nx env st1 => exact fun μ' H' σ' L S' _ => q μ' H' L S' _ rfl
  | rt d st1 => exact fun μ' H' v L S' rv => q μ' H' L S' v rv
  | bk env st1 => exact q.elim
  | ct env st1 => exact q.elim
  | ex c env st1 => exact fun μ' H' σ' L S' _ => q μ' H' L S'
  | bad => exact q.elim
theorem defD_mk {x : Str} {st : Stmt} {ps : List Str} {fa : Addr} {oc kV doc pm cdv ct : Value} {od an : Option Addr} {osl : Array (Option Value)} (X : K.In h) (G₀ : h.Ns mainGlobals mg) (hK : g.K = K)
    (a : PySem.W.nsIn K mainGlobals x = some (some (.ref fa))) (l : K.lookup fa = some ⟨oc, od, .func (PySem.W.fnOf x x (defArgs st) (defBody st) (defScope st) .none kV doc pm an cdv ct), osl⟩)
    (c : PySem.W.codeIn K cdv x = true) (k : PySem.W.keepIn K (.ref fa) = true) (b : ∀ us : List Value, us.length = ps.length → bindArgs (PySem.W.fnOf x x (defArgs st) (defBody st) (defScope st) .none kV doc pm an cdv ct) ⟨us, []⟩ = pure (ps.zip us)) : DefD g mg x st ps := by
  subst hK
  exact ⟨fa, _, fun_mk l c k, PySem.W.mg_of X G₀ a, .all b⟩
theorem defL_mk {x : Str} {st : Stmt} {ps : List Str} {fa cA : Addr} {oc kV doc pm ct : Value} {od an : Option Addr} {osl : Array (Option Value)} (X : K.In h) (G₀ : h.Ns mainGlobals mg) (hK : g.K = K) (hc : (g.cp x).1 = cA)
    (a : PySem.W.nsIn K mainGlobals x = some (some (.ref fa))) (l : K.lookup fa = some ⟨oc, od, .func (PySem.W.fnOf x x (defArgs st) (defBody st) (defScope st) .none kV doc pm an (.ref cA) ct), osl⟩)
    (c : PySem.W.codeIn K (.ref cA) x = true) (k : PySem.W.keepIn K (.ref fa) = true) (b : ∀ us : List Value, us.length = ps.length → bindArgs (PySem.W.fnOf x x (defArgs st) (defBody st) (defScope st) .none kV doc pm an (.ref cA) ct) ⟨us, []⟩ = pure (ps.zip us)) : DefL g mg x st ps := by
  subst hK
  subst hc
  exact ⟨fa, oc, kV, doc, pm, ct, od, an, osl, l, c, k, PySem.W.mg_of X G₀ a, .all b⟩
theorem told_mk {x e ret : Str} {st : Stmt} {a : Str} {Ng : List Str} {fa : Addr} {oc kV doc pm cdv ct : Value} {od an : Option Addr} {osl : Array (Option Value)} (X : K.In h) (G₀ : h.Ns mainGlobals mg) (hK : g.K = K)
    (ha : PySem.W.nsIn K mainGlobals x = some (some (.ref fa))) (l : K.lookup fa = some ⟨oc, od, .func (PySem.W.fnOf x x (defArgs st) (defBody st) (defScope st) .none kV doc pm an cdv ct), osl⟩)
    (c : PySem.W.codeIn K cdv x = true) (k : PySem.W.keepIn K (.ref fa) = true) (b : ∀ us : List Value, us.length = 1 → bindArgs (PySem.W.fnOf x x (defArgs st) (defBody st) (defScope st) .none kV doc pm an cdv ct) ⟨us, []⟩ = pure ([a].zip us))
    (sc : FnScope Ng [a] (defScope st)) (n0 : Ng[0]? = some a) (vi : Vis (defScope st) a) (hst : ∀ f : Addr, (L2.start Ng [V.ref f])[0]? = some (some (V.ref f)))
    (bd : ∃ (jj : Nat) (p1 p2 p3 p4 p5 p6 p7 p8 : Pos), defBody st = [.Try [.Return (some (.Call (.Name a p1) [] [] p2)) p3] [.ExceptHandler (some (.Name e p4)) none [.Return (some (.Constant (.str ret) jj p5)) p6] p7] [] [] p8])
    (ge : (defScope st).names.lookup e = some .globalImplicit) (de : (e == ("__debug__" : Str)) = false) (da : (a == ("__debug__" : Str)) = false) (dc : (a == ("__classdict__" : Str)) = false) (dx : (x == ("__debug__" : Str)) = false) : ToldD g mg x e ret := by
  subst hK
  exact ⟨fa, _, _, _, kV, doc, pm, cdv, ct, oc, an, od, osl, Ng, a, PySem.W.mg_of X G₀ ha, k, l, c, .all b, sc, n0, vi, hst, bd, ge, de, da, dc, dx⟩
theorem none_mk {x : Str} (X : K.In h) (G₀ : h.Ns mainGlobals mg) (a : PySem.W.nsIn K mainGlobals x = some none) : mg x = none := PySem.W.mg_none_of X G₀ a
theorem exD_mk {x : Str} {C : Addr} (X : K.In h) (G₀ : h.Ns mainGlobals mg) (hK : g.K = K) (hC : g.ga x = C) (a : PySem.W.nsIn K mainGlobals x = some (some (.ref C)))
    (xC : PySem.W.excIn K C [.type "ValueError", .type "Exception", .type "BaseException", .type "object"] "ValueError.__new__" = true)
    (kC : PySem.W.keepIn K (.ref C) = true) (bC : PySem.W.subIn K (.ref C) (.type "BaseException") = some true) (tC : PySem.W.typeIn K (.ref C) = some (.type "type")) : ExD g mg x := by
  subst hK
  subst hC
  exact ⟨PySem.W.mg_of X G₀ a, xC, kC, bC, tC⟩
theorem tabB_cast {x : Str} {c P : Addr} (e : g.cp x = (c, P)) (t : LamX.TabB base mg c P) : LamX.TabB base mg (g.cp x).1 (g.cp x).2 := by rw [e]; exact t
/-! constants -/
mutual
def chkD (K : PySem.W.Frag) : D → Value → Bool
  | .non, .none => true
  | .bl b, .bool b' => b == b'
  | .int i, .int j _ => i == j
  | .str x, .str y _ => x == y
  | .tup ds, .ref a => match K.lookup a with
    | some ⟨.type "tuple", _, .seq its _, _⟩ => Nat.ble its.size sizeLine && chkDs K ds its.toList
    | _ => false
  | _, _ => false
def chkDs (K : PySem.W.Frag) : List D → List Value → Bool
  | [], [] => true
  | d :: ds, u :: us => chkD K d u && chkDs K ds us
  | _, _ => false
end
mutual
theorem chkD_ok (hK : g.K = K) : ∀ {d : D} {u : Value}, chkD K d u = true → ∃ v, RelV v u ∧ ∀ μ H, Rep g μ H d v
  | .non, .none, _ => ⟨.non, rfl, fun _ _ => by unfold Rep; rfl⟩
  | .bl b, .bool b', e => ⟨.bl b, by unfold chkD at e; rw [beq_iff_eq.mp e] <;> rfl, fun _ _ => by unfold Rep; rfl⟩
  | .int i, .int j t, e => ⟨.int i, by unfold chkD at e; exact ⟨t, by rw [beq_iff_eq.mp e]⟩, fun _ _ => by unfold Rep; rfl⟩
  | .str x, .str y t, e => ⟨.str x, by unfold chkD at e; exact ⟨t, by rw [beq_iff_eq.mp e]⟩, fun _ _ => by unfold Rep; rfl⟩
  | .tup ds, .ref a, e => by
    unfold chkD at e
    split at e
    · rename_i dd its n sl lk
      simp only [Bool.and_eq_true, Nat.ble_eq] at e
      obtain ⟨vs, r, q⟩ := chkDs_ok hK e.2
      exact ⟨.ref a, rfl, fun μ H => by unfold Rep; exact ⟨a, vs, rfl, .inr ⟨_, its, n, by rw [hK]; exact lk, rfl, rfl, e.1, r⟩, q μ H⟩⟩
    · cases e
theorem chkDs_ok (hK : g.K = K) : ∀ {ds : List D} {us : List Value}, chkDs K ds us = true → ∃ vs, Vals vs us ∧ ∀ μ H, Reps g μ H ds vs
  | [], [], _ => ⟨[], .nil, fun _ _ => by unfold Reps; rfl⟩
  | d :: ds, u :: us, e => by
    unfold chkDs at e
    simp only [Bool.and_eq_true] at e
    obtain ⟨v, r, q⟩ := chkD_ok hK e.1
    obtain ⟨vs, rs, qs⟩ := chkDs_ok hK e.2
    exact ⟨v :: vs, .cons r rs, fun μ H => by unfold Reps; exact ⟨v, vs, rfl, q μ H, qs μ H⟩⟩
end
theorem glob_mk {x : Str} {d : D} {u : Value} (X : K.In h) (G₀ : h.Ns mainGlobals mg) (hK : g.K = K) (a : PySem.W.nsIn K mainGlobals x = some (some u)) (e : chkD K d u = true) : Glob g mg x d := by
  obtain ⟨v, r, q⟩ := chkD_ok hK e
  exact ⟨u, v, PySem.W.mg_of X G₀ a, r, q⟩
theorem exm_one {S : Addr} (h1 : PySem.W.subIn K (.ref S) (.type "BaseException") = some true) (h2 : PySem.W.isClsIn K S = true) (h3 : PySem.W.typeIn K (.ref S) = some (.type "type")) {C : Addr} {b : Bool} (h4 : PySem.W.subIn K (.ref C) (.ref S) = some b) :
    PySem.W.exmOne K (.ref C) (.ref S) = some b := by
  unfold PySem.W.isClsIn at h2
  unfold PySem.W.exmOne PySem.W.kitCls
  simp [h1, h2, h3, h4]
end
/-- the law's promise at the head -/
theorem law_at {l : PySem.W.OpenLaw} {w : World} {K : PySem.W.Frag} {mg : Str → Option Value} {h : Heap} {k n : Nat} {x : Str} {fa : Addr} {g : GC} {fd : FuncData} {f : List D → Store → R D} (cs : List (Addr × Addr)) (hK : g.K = K)
    (hT : ∀ p ∈ cs, h.get? p.2 = some { cls := .none, data := .fields #[] }) (nT : ∀ p ∈ cs, K.lookup p.2 = none) (C : ∀ p ∈ cs, PySem.W.CodeHd h p.1 p.2) (hb : ∀ (s : Shared) (u : Value), BindsTo s fd ⟨[u], []⟩ [(x, u)])
    (hg : ∀ p ∈ g.T, ∃ q ∈ cs, q.2 = p.1) (law : ∀ ns : List Int, ns.length ≤ n → ∃ st, f [.scr ns] [] = .ok (.bl true) st)
    (hF : ∀ base : Heap, K.In base → base.Ns mainGlobals mg → (∀ p ∈ cs, LamX.TabB base mg p.1 p.2) → FnOk l.prog w K mg base (L2.CX l.prog w) k fa fd [x] (spD g 1 f)) : LamX.LawAtS l w K (L2.CX l.prog w) k n x mg fa h := by
  subst hK
  refine ⟨fd, cs, spD g 1 f, hT, nT, C, hb, fun H a ns hl _ ht hs => ?_, hF⟩
  obtain ⟨st, e⟩ := law ns hl
  refine ⟨rfl, ⟨[], []⟩, [], [.scr ns], ⟨rfl, List.nodup_nil, fun a ha => (nomatch ha), fun n a o e => by simp at e, fun p hp => ?_⟩, ?_, ?_⟩
  · obtain ⟨q, hq, e⟩ := hg p hp
    exact LamX.TabS.nil (by rw [← e]; exact ht q hq)
  · refine ⟨.ref a, [], rfl, ?_, rfl⟩
    unfold Rep
    refine ⟨a, rfl, ?_⟩
    rcases hs with hs | hs
    · exact .inl ⟨⟨List.not_mem_nil, List.not_mem_nil⟩, hs⟩
    · refine .inr ?_
      exact hs
  · rw [e]
    intro μ' H' L S' v r
    unfold Rep at r
    exact r
theorem law_end {l : PySem.W.OpenLaw} {w : World} {K : PySem.W.Frag} {mg : Str → Option Value} {h : Heap} {k n : Nat} {x : Str} {fa fL cL : Addr} {g : GC} {s : Stmt} {f : List D → Store → R D} (cs : List (Addr × Addr))
    {oc kV doc pm ct : Value} {od an : Option Addr} {osl : Array (Option Value)} (X : K.In h) (G₀ : h.Ns mainGlobals mg) (hK : g.K = K) (hm : mg "law" = some (.ref fa)) (a : PySem.W.nsIn K mainGlobals "law" = some (some (.ref fL)))
    (lk : K.lookup fL = some ⟨oc, od, .func (PySem.W.fnOf "law" "law" (defArgs s) (defBody s) (defScope s) .none kV doc pm an (.ref cL) ct), osl⟩) (hcd : PySem.W.codeIn K (.ref cL) "law" = true)
    (hT : ∀ p ∈ cs, h.get? p.2 = some { cls := .none, data := .fields #[] }) (nT : ∀ p ∈ cs, K.lookup p.2 = none) (C : ∀ p ∈ cs, PySem.W.CodeHd h p.1 p.2)
    (hb : ∀ us : List Value, us.length = 1 → bindArgs (PySem.W.fnOf "law" "law" (defArgs s) (defBody s) (defScope s) .none kV doc pm an (.ref cL) ct) ⟨us, []⟩ = pure ([x].zip us))
    (hg : ∀ p ∈ g.T, ∃ q ∈ cs, q.2 = p.1) (law : ∀ ns : List Int, ns.length ≤ n → ∃ st, f [.scr ns] [] = .ok (.bl true) st)
    (hF : ∀ base : Heap, K.In base → base.Ns mainGlobals mg → (∀ p ∈ cs, LamX.TabB base mg p.1 p.2) →
      g.K.lookup fL = some ⟨oc, od, .func (PySem.W.fnOf "law" "law" (defArgs s) (defBody s) (defScope s) .none kV doc pm an (.ref cL) ct), osl⟩ → PySem.W.codeIn g.K (.ref cL) "law" = true →
      FnOk l.prog w g.K mg base (L2.CX l.prog w) k fL (PySem.W.fnOf "law" "law" (defArgs s) (defBody s) (defScope s) .none kV doc pm an (.ref cL) ct) [x] (spD g 1 f)) : LamX.LawAtS l w K (L2.CX l.prog w) k n x mg fa h := by
  have e := hm.symm.trans (PySem.W.mg_of X G₀ a)
  cases e
  subst hK
  exact law_at cs rfl hT nT C (fun s u => .of_eq (hb [u] rfl)) hg law fun base h1 h2 h3 => hF base h1 h2 h3 lk hcd
end G

namespace K01
open PySem G
open L2 (FnScope defScope defBody defArgs blkOk_by sw_true Cx XK Hp Binds Fun)
def topS (i : Nat) : Stmt := PySem.Challenge.pw_clockstack_k01_days_and_their_dates.main.body.getD i (.Pass ⟨0, 0, 0, 0⟩)
def c_MONTH_LENGTHS : D := (.tup [(.int 31), (.int 28), (.int 31), (.int 30), (.int 31), (.int 30), (.int 31), (.int 31), (.int 30), (.int 31), (.int 30), (.int 31)])
def c_WEEKDAYS : D := (.tup [(.str "mon"), (.str "tue"), (.str "wed"), (.str "thu"), (.str "fri"), (.str "sat"), (.str "sun")])
def c_MOST_YEAR : D := (.int 9999)
abbrev s_is_leap : Stmt := topS 7
theorem sc_is_leap : FnScope ["year"] ["year"] (defScope s_is_leap) := ⟨rfl, rfl, rfl, by decide +kernel, rfl, by decide +kernel, by decide +kernel⟩
abbrev s_days_in_month : Stmt := topS 8
theorem sc_days_in_month : FnScope ["year", "month", "leap"] ["year", "month"] (defScope s_days_in_month) := ⟨rfl, rfl, rfl, by decide +kernel, rfl, by decide +kernel, by decide +kernel⟩
abbrev s_check_date : Stmt := topS 9
theorem sc_check_date : FnScope ["date", "year", "month", "day"] ["date"] (defScope s_check_date) := ⟨rfl, rfl, rfl, by decide +kernel, rfl, by decide +kernel, by decide +kernel⟩
abbrev s_days_before_year : Stmt := topS 10
theorem sc_days_before_year : FnScope ["year", "past"] ["year"] (defScope s_days_before_year) := ⟨rfl, rfl, rfl, by decide +kernel, rfl, by decide +kernel, by decide +kernel⟩
abbrev s_day_number : Stmt := topS 11
theorem sc_day_number : FnScope ["date", "year", "month", "day", "ahead"] ["date"] (defScope s_day_number) := ⟨rfl, rfl, rfl, by decide +kernel, rfl, by decide +kernel, by decide +kernel⟩
abbrev s_check_number : Stmt := topS 12
theorem sc_check_number : FnScope ["number"] ["number"] (defScope s_check_number) := ⟨rfl, rfl, rfl, by decide +kernel, rfl, by decide +kernel, by decide +kernel⟩
abbrev s_date_of : Stmt := topS 13
theorem sc_date_of : FnScope ["number", "year", "left", "month", "leap", "long"] ["number"] (defScope s_date_of) := ⟨rfl, rfl, rfl, by decide +kernel, rfl, by decide +kernel, by decide +kernel⟩
abbrev s_weekday_of : Stmt := topS 14
theorem sc_weekday_of : FnScope ["number"] ["number"] (defScope s_weekday_of) := ⟨rfl, rfl, rfl, by decide +kernel, rfl, by decide +kernel, by decide +kernel⟩
abbrev s_day_of_year : Stmt := topS 15
theorem sc_day_of_year : FnScope ["date"] ["date"] (defScope s_day_of_year) := ⟨rfl, rfl, rfl, by decide +kernel, rfl, by decide +kernel, by decide +kernel⟩
abbrev s_by_day_of_year : Stmt := topS 16
theorem sc_by_day_of_year : FnScope ["year", "place"] ["year", "place"] (defScope s_by_day_of_year) := ⟨rfl, rfl, rfl, by decide +kernel, rfl, by decide +kernel, by decide +kernel⟩
abbrev s_days_from : Stmt := topS 17
theorem sc_days_from : FnScope ["one", "other"] ["one", "other"] (defScope s_days_from) := ⟨rfl, rfl, rfl, by decide +kernel, rfl, by decide +kernel, by decide +kernel⟩
abbrev s_later : Stmt := topS 18
theorem sc_later : FnScope ["date", "days"] ["date", "days"] (defScope s_later) := ⟨rfl, rfl, rfl, by decide +kernel, rfl, by decide +kernel, by decide +kernel⟩
abbrev s_old_number : Stmt := topS 19
theorem sc_old_number : FnScope ["date", "year", "month", "day", "long", "past", "ahead", "found"] ["date"] (defScope s_old_number) := ⟨rfl, rfl, rfl, by decide +kernel, rfl, by decide +kernel, by decide +kernel⟩
abbrev s_old_date : Stmt := topS 20
theorem sc_old_date : FnScope ["number", "count", "cycle", "left", "year", "month"] ["number"] (defScope s_old_date) := ⟨rfl, rfl, rfl, by decide +kernel, rfl, by decide +kernel, by decide +kernel⟩
abbrev s_month_length_old : Stmt := topS 21
theorem sc_month_length_old : FnScope ["year", "month"] ["year", "month"] (defScope s_month_length_old) := ⟨rfl, rfl, rfl, by decide +kernel, rfl, by decide +kernel, by decide +kernel⟩
abbrev s_apart_calendars : Stmt := topS 22
theorem sc_apart_calendars : FnScope ["date"] ["date"] (defScope s_apart_calendars) := ⟨rfl, rfl, rfl, by decide +kernel, rfl, by decide +kernel, by decide +kernel⟩
abbrev s_is_ahead : Stmt := topS 23
theorem sc_is_ahead : FnScope ["one", "other"] ["one", "other"] (defScope s_is_ahead) := ⟨rfl, rfl, rfl, by decide +kernel, rfl, by decide +kernel, by decide +kernel⟩
abbrev s__law_dice : Stmt := topS 25
theorem sc__law_dice : FnScope ["cell"] ["cell"] (defScope s__law_dice) := ⟨rfl, rfl, rfl, by decide +kernel, rfl, by decide +kernel, by decide +kernel⟩
abbrev s__law_roll : Stmt := topS 26
theorem sc__law_roll : FnScope ["dice", "many", "found"] ["dice", "many"] (defScope s__law_roll) := ⟨rfl, rfl, rfl, by decide +kernel, rfl, by decide +kernel, by decide +kernel⟩
abbrev s__law_rounds : Stmt := topS 27
theorem sc__law_rounds : FnScope ["script", "most", "cells", "cell"] ["script", "most"] (defScope s__law_rounds) := ⟨rfl, rfl, rfl, by decide +kernel, rfl, by decide +kernel, by decide +kernel⟩
abbrev s__law_told : Stmt := topS 28
theorem sc__law_told : FnScope ["what"] ["what"] (defScope s__law_told) := ⟨rfl, rfl, rfl, by decide +kernel, rfl, by decide +kernel, by decide +kernel⟩
abbrev s__law_leap : Stmt := topS 29
theorem sc__law_leap : FnScope ["year", "is_old"] ["year", "is_old"] (defScope s__law_leap) := ⟨rfl, rfl, rfl, by decide +kernel, rfl, by decide +kernel, by decide +kernel⟩
abbrev s__law_long : Stmt := topS 30
theorem sc__law_long : FnScope ["year", "month", "is_old"] ["year", "month", "is_old"] (defScope s__law_long) := ⟨rfl, rfl, rfl, by decide +kernel, rfl, by decide +kernel, by decide +kernel⟩
abbrev s__law_next : Stmt := topS 31
theorem sc__law_next : FnScope ["date", "is_old", "year", "month", "day"] ["date", "is_old"] (defScope s__law_next) := ⟨rfl, rfl, rfl, by decide +kernel, rfl, by decide +kernel, by decide +kernel⟩
abbrev s__law_number : Stmt := topS 32
theorem sc__law_number : FnScope ["date", "year", "month", "day", "found", "one"] ["date"] (defScope s__law_number) := ⟨rfl, rfl, rfl, by decide +kernel, rfl, by decide +kernel, by decide +kernel⟩
abbrev s__law_old : Stmt := topS 33
theorem sc__law_old : FnScope ["date", "year", "month", "day", "found", "one"] ["date"] (defScope s__law_old) := ⟨rfl, rfl, rfl, by decide +kernel, rfl, by decide +kernel, by decide +kernel⟩
abbrev s__law_date : Stmt := topS 34
theorem sc__law_date : FnScope ["dice", "year", "month"] ["dice"] (defScope s__law_date) := ⟨rfl, rfl, rfl, by decide +kernel, rfl, by decide +kernel, by decide +kernel⟩
abbrev s__law_plain : Stmt := topS 35
theorem sc__law_plain : FnScope ["bad", "f"] [] (defScope s__law_plain) := ⟨rfl, rfl, rfl, by decide +kernel, rfl, by decide +kernel, by decide +kernel⟩
abbrev s_law : Stmt := topS 36
theorem sc_law : FnScope ["script", "dice", "date", "other", "number", "month", "place", "here", "steps", "turn", "old", "due", "year", "day", "good"] ["script"] (defScope s_law) := ⟨rfl, rfl, rfl, by decide +kernel, rfl, by decide +kernel, by decide +kernel⟩
def lam_0 : LamI := lamI ((("_law_plain" : Str) ++ ".<locals>.") ++ "<lambda>") (listElt ((defBody s__law_plain).getD 0 (.Pass ⟨0, 0, 0, 0⟩)) 0)
def lam_1 : LamI := lamI ((("_law_plain" : Str) ++ ".<locals>.") ++ "<lambda>") (listElt ((defBody s__law_plain).getD 0 (.Pass ⟨0, 0, 0, 0⟩)) 1)
def lam_2 : LamI := lamI ((("_law_plain" : Str) ++ ".<locals>.") ++ "<lambda>") (listElt ((defBody s__law_plain).getD 0 (.Pass ⟨0, 0, 0, 0⟩)) 2)
def lam_3 : LamI := lamI ((("_law_plain" : Str) ++ ".<locals>.") ++ "<lambda>") (listElt ((defBody s__law_plain).getD 0 (.Pass ⟨0, 0, 0, 0⟩)) 3)
def lam_4 : LamI := lamI ((("_law_plain" : Str) ++ ".<locals>.") ++ "<lambda>") (listElt ((defBody s__law_plain).getD 0 (.Pass ⟨0, 0, 0, 0⟩)) 4)
def lam_5 : LamI := lamI ((("_law_plain" : Str) ++ ".<locals>.") ++ "<lambda>") (listElt ((defBody s__law_plain).getD 0 (.Pass ⟨0, 0, 0, 0⟩)) 5)
def lam_6 : LamI := lamI ((("_law_plain" : Str) ++ ".<locals>.") ++ "<lambda>") (listElt ((defBody s__law_plain).getD 0 (.Pass ⟨0, 0, 0, 0⟩)) 6)
def lam_7 : LamI := lamI ((("_law_plain" : Str) ++ ".<locals>.") ++ "<lambda>") (listElt ((defBody s__law_plain).getD 0 (.Pass ⟨0, 0, 0, 0⟩)) 7)
def lam_8 : LamI := lamI ((("_law_plain" : Str) ++ ".<locals>.") ++ "<lambda>") (listElt ((defBody s__law_plain).getD 0 (.Pass ⟨0, 0, 0, 0⟩)) 8)
def lam_9 : LamI := lamI ((("_law_plain" : Str) ++ ".<locals>.") ++ "<lambda>") (listElt ((defBody s__law_plain).getD 0 (.Pass ⟨0, 0, 0, 0⟩)) 9)
def lam_10 : LamI := lamI ((("_law_plain" : Str) ++ ".<locals>.") ++ "<lambda>") (listElt ((defBody s__law_plain).getD 0 (.Pass ⟨0, 0, 0, 0⟩)) 10)
def lam_11 : LamI := lamI ((("_law_plain" : Str) ++ ".<locals>.") ++ "<lambda>") (listElt ((defBody s__law_plain).getD 0 (.Pass ⟨0, 0, 0, 0⟩)) 11)
def lam_12 : LamI := lamI ((("_law_plain" : Str) ++ ".<locals>.") ++ "<lambda>") (listElt ((defBody s__law_plain).getD 0 (.Pass ⟨0, 0, 0, 0⟩)) 12)
def lam_13 : LamI := lamI ((("_law_plain" : Str) ++ ".<locals>.") ++ "<lambda>") (listElt ((defBody s__law_plain).getD 0 (.Pass ⟨0, 0, 0, 0⟩)) 13)
def lam_14 : LamI := lamI ((("_law_plain" : Str) ++ ".<locals>.") ++ "<lambda>") (listElt ((defBody s__law_plain).getD 0 (.Pass ⟨0, 0, 0, 0⟩)) 14)
def lam_15 : LamI := lamI ((("_law_plain" : Str) ++ ".<locals>.") ++ "<lambda>") (listElt ((defBody s__law_plain).getD 0 (.Pass ⟨0, 0, 0, 0⟩)) 15)
def lam_16 : LamI := lamI ((("_law_plain" : Str) ++ ".<locals>.") ++ "<lambda>") (listElt ((defBody s__law_plain).getD 0 (.Pass ⟨0, 0, 0, 0⟩)) 16)
def lam_17 : LamI := lamI ((("_law_plain" : Str) ++ ".<locals>.") ++ "<lambda>") (listElt ((defBody s__law_plain).getD 0 (.Pass ⟨0, 0, 0, 0⟩)) 17)
def lam_18 : LamI := lamI ((("_law_plain" : Str) ++ ".<locals>.") ++ "<lambda>") (listElt ((defBody s__law_plain).getD 0 (.Pass ⟨0, 0, 0, 0⟩)) 18)
def lam_19 : LamI := lamI ((("_law_plain" : Str) ++ ".<locals>.") ++ "<lambda>") (listElt ((defBody s__law_plain).getD 0 (.Pass ⟨0, 0, 0, 0⟩)) 19)
def lam_20 : LamI := lamI ((("_law_plain" : Str) ++ ".<locals>.") ++ "<lambda>") (listElt ((defBody s__law_plain).getD 0 (.Pass ⟨0, 0, 0, 0⟩)) 20)
def lam_21 : LamI := lamI ((("_law_plain" : Str) ++ ".<locals>.") ++ "<lambda>") (listElt ((defBody s__law_plain).getD 0 (.Pass ⟨0, 0, 0, 0⟩)) 21)
def lam_22 : LamI := lamI ((("_law_plain" : Str) ++ ".<locals>.") ++ "<lambda>") (listElt ((defBody s__law_plain).getD 0 (.Pass ⟨0, 0, 0, 0⟩)) 22)
def lam_23 : LamI := lamI ((("_law_plain" : Str) ++ ".<locals>.") ++ "<lambda>") (listElt ((defBody s__law_plain).getD 0 (.Pass ⟨0, 0, 0, 0⟩)) 23)
/-- what is known of the text -/
structure Txt (g : GC) (mg : Str → Option Value) : Prop where
  catch_DayError : Catches g "DayError" [("DayError", true)]
  e_DayError : ExD g mg "DayError"
  g_MONTH_LENGTHS : Glob g mg "MONTH_LENGTHS" c_MONTH_LENGTHS
  g_MOST_YEAR : Glob g mg "MOST_YEAR" c_MOST_YEAR
  g_WEEKDAYS : Glob g mg "WEEKDAYS" c_WEEKDAYS
  n_abs : mg "abs" = none
  n_int : mg "int" = none
  n_max : mg "max" = none
  n_min : mg "min" = none
  n_range : mg "range" = none
  n_sum : mg "sum" = none
  told : ToldD g mg "_law_told" "DayError" "DayError"
  c_told : Catches g "DayError" [("DayError", true)]
  l_0 : g.lam 0 = some lam_0
  l_1 : g.lam 1 = some lam_1
  l_2 : g.lam 2 = some lam_2
  l_3 : g.lam 3 = some lam_3
  l_4 : g.lam 4 = some lam_4
  l_5 : g.lam 5 = some lam_5
  l_6 : g.lam 6 = some lam_6
  l_7 : g.lam 7 = some lam_7
  l_8 : g.lam 8 = some lam_8
  l_9 : g.lam 9 = some lam_9
  l_10 : g.lam 10 = some lam_10
  l_11 : g.lam 11 = some lam_11
  l_12 : g.lam 12 = some lam_12
  l_13 : g.lam 13 = some lam_13
  l_14 : g.lam 14 = some lam_14
  l_15 : g.lam 15 = some lam_15
  l_16 : g.lam 16 = some lam_16
  l_17 : g.lam 17 = some lam_17
  l_18 : g.lam 18 = some lam_18
  l_19 : g.lam 19 = some lam_19
  l_20 : g.lam 20 = some lam_20
  l_21 : g.lam 21 = some lam_21
  l_22 : g.lam 22 = some lam_22
  l_23 : g.lam 23 = some lam_23
  lam_no : ∀ n, 24 ≤ n → g.lam n = none
  d_is_leap : DefD g mg "is_leap" s_is_leap ["year"]
  d_days_in_month : DefD g mg "days_in_month" s_days_in_month ["year", "month"]
  d_check_date : DefD g mg "check_date" s_check_date ["date"]
  d_days_before_year : DefD g mg "days_before_year" s_days_before_year ["year"]
  d_day_number : DefD g mg "day_number" s_day_number ["date"]
  d_check_number : DefD g mg "check_number" s_check_number ["number"]
  d_date_of : DefD g mg "date_of" s_date_of ["number"]
  d_weekday_of : DefD g mg "weekday_of" s_weekday_of ["number"]
  d_day_of_year : DefD g mg "day_of_year" s_day_of_year ["date"]
  d_by_day_of_year : DefD g mg "by_day_of_year" s_by_day_of_year ["year", "place"]
  d_days_from : DefD g mg "days_from" s_days_from ["one", "other"]
  d_later : DefD g mg "later" s_later ["date", "days"]
  d_old_number : DefD g mg "old_number" s_old_number ["date"]
  d_old_date : DefD g mg "old_date" s_old_date ["number"]
  d_month_length_old : DefD g mg "month_length_old" s_month_length_old ["year", "month"]
  d_apart_calendars : DefD g mg "apart_calendars" s_apart_calendars ["date"]
  d_is_ahead : DefD g mg "is_ahead" s_is_ahead ["one", "other"]
  d__law_dice : DefD g mg "_law_dice" s__law_dice ["cell"]
  d__law_roll : DefD g mg "_law_roll" s__law_roll ["dice", "many"]
  d__law_rounds : DefD g mg "_law_rounds" s__law_rounds ["script", "most"]
  d__law_told : DefD g mg "_law_told" s__law_told ["what"]
  d__law_leap : DefD g mg "_law_leap" s__law_leap ["year", "is_old"]
  d__law_long : DefD g mg "_law_long" s__law_long ["year", "month", "is_old"]
  d__law_next : DefD g mg "_law_next" s__law_next ["date", "is_old"]
  d__law_number : DefD g mg "_law_number" s__law_number ["date"]
  d__law_old : DefD g mg "_law_old" s__law_old ["date"]
  d__law_date : DefD g mg "_law_date" s__law_date ["dice"]
  d__law_plain : DefL g mg "_law_plain" s__law_plain []
  mT__law_plain : ((g.cp "_law_plain").2, (("_law_plain" : Str) ++ ".<locals>.") ++ "<lambda>") ∈ g.T
  hu__law_plain : ∀ p ∈ g.T, p.1 = (g.cp "_law_plain").2 → p.2 = (("_law_plain" : Str) ++ ".<locals>.") ++ "<lambda>"
  mT_law : ((g.cp "law").2, (("law" : Str) ++ ".<locals>.") ++ "<lambda>") ∈ g.T
  hu_law : ∀ p ∈ g.T, p.1 = (g.cp "law").2 → p.2 = (("law" : Str) ++ ".<locals>.") ++ "<lambda>"
structure Tbs (g : GC) (mg : Str → Option Value) (base : Heap) : Prop where
  t__law_plain : LamX.TabB base mg (g.cp "_law_plain").1 (g.cp "_law_plain").2
  t_law : LamX.TabB base mg (g.cp "law").1 (g.cp "law").2
section
variable {P : Program} {w : World} {g : GC} {mg : Str → Option Value} {base : Heap}
/-! _law_leap -/
def b__law_leap : DS := dRet (dAndV (dBin aEq (dBin aMod (dVar 0) (dC (.int 4))) (dC (.int 0))) (dOrV (dVar 1) (dOrV (dBin aGt (dBin aMod (dVar 0) (dC (.int 100))) (dC (.int 0))) (dBin aEq (dBin aMod (dVar 0) (dC (.int 400))) (dC (.int 0))))))
def f__law_leap : List D → Store → R D := runB 2 b__law_leap
theorem fn__law_leap (T : Txt g mg) (B : Tbs g mg base) : FnD P w mg base g 1 "_law_leap" 2 f__law_leap := by
  refine (fn_D T.d__law_leap sc__law_leap rfl fun fa cdv A outer s H E O => ?_)
  exact ss_one (s_ret (pd_and (pd_cmp (oEq O) (pd_bin oMod (pd_var 0) (pd_int)) (pd_int)) (pd_one (pd_or (pd_var 1) (pd_or (pd_cmp oGt (pd_bin oMod (pd_var 0) (pd_int)) (pd_int)) (pd_one (pd_cmp (oEq O) (pd_bin oMod (pd_var 0) (pd_int)) (pd_int))))))))
/-! _law_long -/
def b__law_long : DS := dRet (dBin aIx (dLst false (dCons (dC (.int 31)) (dCons (dIf (dTru (dCall f__law_leap (dCons (dVar 0) (dCons (dVar 2) (dNil))))) (dC (.int 29)) (dC (.int 28))) (dCons (dC (.int 31)) (dCons (dC (.int 30)) (dCons (dC (.int 31)) (dCons (dC (.int 30)) (dCons (dC (.int 31)) (dCons (dC (.int 31)) (dCons (dC (.int 30)) (dCons (dC (.int 31)) (dCons (dC (.int 30)) (dCons (dC (.int 31)) (dNil)))))))))))))) (dBin aSub (dVar 1) (dC (.int 1))))
def f__law_long : List D → Store → R D := runB 3 b__law_long
theorem fn__law_long (T : Txt g mg) (B : Tbs g mg base) : FnD P w mg base g 2 "_law_long" 3 f__law_long := by
  have F__law_leap := (fn__law_leap (P := P) (w := w) (base := base) T B)
  refine (fn_D T.d__law_long sc__law_long rfl fun fa cdv A outer s H E O => ?_)
  exact ss_one (s_ret (pd_ix O (pd_lst false (pa_cons (pd_int) (pa_cons (pd_if (pt_tru O (pd_call O F__law_leap (by decide) (pa_cons (pd_var 0) (pa_cons (pd_var 2) (pa_nil))) (len_cons_ (len_cons_ (fun _ _ _ _ h => len_nil_ h))))) (pd_int) (pd_int)) (pa_cons (pd_int) (pa_cons (pd_int) (pa_cons (pd_int) (pa_cons (pd_int) (pa_cons (pd_int) (pa_cons (pd_int) (pa_cons (pd_int) (pa_cons (pd_int) (pa_cons (pd_int) (pa_cons (pd_int) (pa_nil)))))))))))))) (pd_bin oSub (pd_var 1) (pd_int))))
/-! _law_roll -/
def b__law_roll (self : List D → Store → R D) : DS := dSeq (dIfS (dOr (dB (dBin aEq (dBin aIx (dVar 0) (dC (.int 2))) (dC (.int 2)))) (dAnd (dB (dBin aEq (dBin aIx (dVar 0) (dC (.int 2))) (dC (.int 1)))) (dB (dBin aGt (dBin aIx (dVar 0) (dC (.int 0))) (dC (.int 0)))))) (dSeq (dAsg (dBin aMod (dCall bInt (dCons (dBin aIx (dVar 0) (dC (.int 0))) (dNil))) (dVar 1)) (dgName 2)) (dSeq (dSetL (dBin aFdiv (dBin aIx (dVar 0) (dC (.int 0))) (dVar 1)) (dVar 0) (dC (.int 0))) (dRet (dVar 2)))) (dNext)) (dSeq (dSetL (dC (.int 0)) (dVar 0) (dC (.int 2))) (dSeq (dIfS (dB (dBin aGt (dVar 1) (dC (.int 100000000)))) (dRet (dBin aMod (dCall bInt (dCons (dBin (aAdd false) (dBin (aMul false) (dCall self (dCons (dVar 0) (dCons (dBin (aAdd false) (dBin aFdiv (dVar 1) (dC (.int 100000000))) (dC (.int 1))) (dNil)))) (dC (.int 100000000))) (dCall self (dCons (dVar 0) (dCons (dC (.int 100000000)) (dNil))))) (dNil))) (dVar 1))) (dNext)) (dSeq (dSetL (dBin aMod (dCall bInt (dCons (dBin (aAdd false) (dBin (aAdd false) (dBin (aMul false) (dBin aIx (dVar 0) (dC (.int 0))) (dC (.int 48271))) (dBin (aMul false) (dBin aIx (dVar 0) (dC (.int 1))) (dC (.int 69621)))) (dC (.int 11))) (dNil))) (dC (.int 2147483647))) (dVar 0) (dC (.int 0))) (dSeq (dSetL (dBin (aAdd false) (dBin aIx (dVar 0) (dC (.int 1))) (dC (.int 1))) (dVar 0) (dC (.int 1))) (dRet (dBin aMod (dCall bInt (dCons (dBin aFdiv (dBin aIx (dVar 0) (dC (.int 0))) (dC (.int 7))) (dNil))) (dVar 1)))))))
def r__law_roll : Nat → List D → Store → R D
  | 0 => fun _ _ => .bad
  | m + 1 => runB 3 (b__law_roll (r__law_roll m))
def f__law_roll : List D → Store → R D := r__law_roll 4
theorem fr__law_roll (T : Txt g mg) (B : Tbs g mg base) : ∀ m, FnD P w mg base g (0 + m) "_law_roll" 2 (r__law_roll m) := by
  refine fn_rec (N := ["dice", "many", "found"]) T.d__law_roll rfl r__law_roll rfl (fun _ => rfl) fun m Fself => fn_D T.d__law_roll sc__law_roll rfl fun fa cdv A outer s H E O => ?_
  exact ss_cons (s_if (pt_w (pw_or (pt_cmp (oEq O) (pd_ix O (pd_var 0) (pd_int)) (pd_int)) (pw_or1 (pt_w (pw_and (pt_cmp (oEq O) (pd_ix O (pd_var 0) (pd_int)) (pd_int)) (pw_and1 (pt_cmp oGt (pd_ix O (pd_var 0) (pd_int)) (pd_int)))))))) (ss_cons (s_asg (pd_bin oMod (pd_callT cInt T.n_int PyProof.Rows.boot_int (pa_cons (pd_ix O (pd_var 0) (pd_int)) (pa_nil))) (pd_var 1)) (g_name 2 O)) (ss_cons (s_setL (pd_bin oFdiv (pd_ix O (pd_var 0) (pd_int)) (pd_var 1)) (pd_var 0) (pd_int)) (ss_one (s_ret (pd_var 2))))) (ss_nil)) (ss_cons (s_setL (pd_int) (pd_var 0) (pd_int)) (ss_cons (s_if (pt_cmp oGt (pd_var 1) (pd_int)) (ss_one (s_ret (pd_bin oMod (pd_callT cInt T.n_int PyProof.Rows.boot_int (pa_cons (pd_bin (oAdd O) (pd_bin oMul (pd_call O Fself (by omega) (pa_cons (pd_var 0) (pa_cons (pd_bin (oAdd O) (pd_bin oFdiv (pd_var 1) (pd_int)) (pd_int)) (pa_nil))) (len_cons_ (len_cons_ (fun _ _ _ _ h => len_nil_ h)))) (pd_int)) (pd_call O Fself (by omega) (pa_cons (pd_var 0) (pa_cons (pd_int) (pa_nil))) (len_cons_ (len_cons_ (fun _ _ _ _ h => len_nil_ h))))) (pa_nil))) (pd_var 1)))) (ss_nil)) (ss_cons (s_setL (pd_bin oMod (pd_callT cInt T.n_int PyProof.Rows.boot_int (pa_cons (pd_bin (oAdd O) (pd_bin (oAdd O) (pd_bin oMul (pd_ix O (pd_var 0) (pd_int)) (pd_int)) (pd_bin oMul (pd_ix O (pd_var 0) (pd_int)) (pd_int))) (pd_int)) (pa_nil))) (pd_int)) (pd_var 0) (pd_int)) (ss_cons (s_setL (pd_bin (oAdd O) (pd_ix O (pd_var 0) (pd_int)) (pd_int)) (pd_var 0) (pd_int)) (ss_one (s_ret (pd_bin oMod (pd_callT cInt T.n_int PyProof.Rows.boot_int (pa_cons (pd_bin oFdiv (pd_ix O (pd_var 0) (pd_int)) (pd_int)) (pa_nil))) (pd_var 1))))))))
theorem fn__law_roll (T : Txt g mg) (B : Tbs g mg base) : FnD P w mg base g 4 "_law_roll" 2 f__law_roll := fr__law_roll T B 4
/-! _law_date -/
def b__law_date : DS := dSeq (dAsg (dBin aIx (dLst false (dCons (dBin (aAdd false) (dC (.int 1)) (dCall f__law_roll (dCons (dVar 0) (dCons (dC (.int 9999)) (dNil))))) (dCons (dBin (aAdd false) (dC (.int 1890)) (dCall f__law_roll (dCons (dVar 0) (dCons (dC (.int 220)) (dNil))))) (dCons (dBin aIx (dLst false (dCons (dC (.int 4)) (dCons (dC (.int 100)) (dCons (dC (.int 400)) (dCons (dC (.int 1600)) (dCons (dC (.int 1900)) (dCons (dC (.int 2000)) (dCons (dC (.int 9999)) (dNil))))))))) (dCall f__law_roll (dCons (dVar 0) (dCons (dC (.int 7)) (dNil))))) (dNil))))) (dCall f__law_roll (dCons (dVar 0) (dCons (dC (.int 3)) (dNil))))) (dgName 1)) (dSeq (dAsg (dBin (aAdd false) (dC (.int 1)) (dCall f__law_roll (dCons (dVar 0) (dCons (dC (.int 12)) (dNil))))) (dgName 2)) (dRet (dTup (dCons (dVar 1) (dCons (dVar 2) (dCons (dBin aIx (dLst false (dCons (dBin (aAdd false) (dC (.int 1)) (dCall f__law_roll (dCons (dVar 0) (dCons (dC (.int 28)) (dNil))))) (dCons (dCall f__law_long (dCons (dVar 1) (dCons (dVar 2) (dCons (dC (.bl false)) (dNil))))) (dNil)))) (dCall f__law_roll (dCons (dVar 0) (dCons (dC (.int 2)) (dNil))))) (dNil)))))))
def f__law_date : List D → Store → R D := runB 3 b__law_date
theorem fn__law_date (T : Txt g mg) (B : Tbs g mg base) : FnD P w mg base g 5 "_law_date" 1 f__law_date := by
  have F__law_long := (fn__law_long (P := P) (w := w) (base := base) T B)
  have F__law_roll := (fn__law_roll (P := P) (w := w) (base := base) T B)
  refine (fn_D T.d__law_date sc__law_date rfl fun fa cdv A outer s H E O => ?_)
  exact ss_cons (s_asg (pd_ix O (pd_lst false (pa_cons (pd_bin (oAdd O) (pd_int) (pd_call O F__law_roll (by decide) (pa_cons (pd_var 0) (pa_cons (pd_int) (pa_nil))) (len_cons_ (len_cons_ (fun _ _ _ _ h => len_nil_ h))))) (pa_cons (pd_bin (oAdd O) (pd_int) (pd_call O F__law_roll (by decide) (pa_cons (pd_var 0) (pa_cons (pd_int) (pa_nil))) (len_cons_ (len_cons_ (fun _ _ _ _ h => len_nil_ h))))) (pa_cons (pd_ix O (pd_lst false (pa_cons (pd_int) (pa_cons (pd_int) (pa_cons (pd_int) (pa_cons (pd_int) (pa_cons (pd_int) (pa_cons (pd_int) (pa_cons (pd_int) (pa_nil))))))))) (pd_call O F__law_roll (by decide) (pa_cons (pd_var 0) (pa_cons (pd_int) (pa_nil))) (len_cons_ (len_cons_ (fun _ _ _ _ h => len_nil_ h))))) (pa_nil))))) (pd_call O F__law_roll (by decide) (pa_cons (pd_var 0) (pa_cons (pd_int) (pa_nil))) (len_cons_ (len_cons_ (fun _ _ _ _ h => len_nil_ h))))) (g_name 1 O)) (ss_cons (s_asg (pd_bin (oAdd O) (pd_int) (pd_call O F__law_roll (by decide) (pa_cons (pd_var 0) (pa_cons (pd_int) (pa_nil))) (len_cons_ (len_cons_ (fun _ _ _ _ h => len_nil_ h))))) (g_name 2 O)) (ss_one (s_ret (pd_tup (pa_cons (pd_var 1) (pa_cons (pd_var 2) (pa_cons (pd_ix O (pd_lst false (pa_cons (pd_bin (oAdd O) (pd_int) (pd_call O F__law_roll (by decide) (pa_cons (pd_var 0) (pa_cons (pd_int) (pa_nil))) (len_cons_ (len_cons_ (fun _ _ _ _ h => len_nil_ h))))) (pa_cons (pd_call O F__law_long (by decide) (pa_cons (pd_var 1) (pa_cons (pd_var 2) (pa_cons (pd_bl) (pa_nil)))) (len_cons_ (len_cons_ (len_cons_ (fun _ _ _ _ h => len_nil_ h))))) (pa_nil)))) (pd_call O F__law_roll (by decide) (pa_cons (pd_var 0) (pa_cons (pd_int) (pa_nil))) (len_cons_ (len_cons_ (fun _ _ _ _ h => len_nil_ h))))) (pa_nil))))))))
/-! _law_next -/
def b__law_next : DS := dSeq (dAsg (dVar 0) (dgTup 3 (dgCons (dgName 2) (dgCons (dgName 3) (dgCons (dgName 4) (dgNil)))))) (dSeq (dIfS (dB (dBin aLt (dVar 4) (dCall f__law_long (dCons (dVar 2) (dCons (dVar 3) (dCons (dVar 1) (dNil))))))) (dRet (dTup (dCons (dVar 2) (dCons (dVar 3) (dCons (dBin (aAdd false) (dVar 4) (dC (.int 1))) (dNil)))))) (dNext)) (dRet (dIf (dB (dBin aLt (dVar 3) (dC (.int 12)))) (dTup (dCons (dVar 2) (dCons (dBin (aAdd false) (dVar 3) (dC (.int 1))) (dCons (dC (.int 1)) (dNil))))) (dTup (dCons (dBin (aAdd false) (dVar 2) (dC (.int 1))) (dCons (dC (.int 1)) (dCons (dC (.int 1)) (dNil))))))))
def f__law_next : List D → Store → R D := runB 5 b__law_next
theorem fn__law_next (T : Txt g mg) (B : Tbs g mg base) : FnD P w mg base g 3 "_law_next" 2 f__law_next := by
  have F__law_long := (fn__law_long (P := P) (w := w) (base := base) T B)
  refine (fn_D T.d__law_next sc__law_next rfl fun fa cdv A outer s H E O => ?_)
  exact ss_cons (s_asg (pd_var 0) (g_tup O (gs_cons (g_name 2 O) (gs_cons (g_name 3 O) (gs_cons (g_name 4 O) (gs_nil)))))) (ss_cons (s_if (pt_cmp (oLt O) (pd_var 4) (pd_call O F__law_long (by decide) (pa_cons (pd_var 2) (pa_cons (pd_var 3) (pa_cons (pd_var 1) (pa_nil)))) (len_cons_ (len_cons_ (len_cons_ (fun _ _ _ _ h => len_nil_ h)))))) (ss_one (s_ret (pd_tup (pa_cons (pd_var 2) (pa_cons (pd_var 3) (pa_cons (pd_bin (oAdd O) (pd_var 4) (pd_int)) (pa_nil))))))) (ss_nil)) (ss_one (s_ret (pd_if (pt_cmp (oLt O) (pd_var 3) (pd_int)) (pd_tup (pa_cons (pd_var 2) (pa_cons (pd_bin (oAdd O) (pd_var 3) (pd_int)) (pa_cons (pd_int) (pa_nil))))) (pd_tup (pa_cons (pd_bin (oAdd O) (pd_var 2) (pd_int)) (pa_cons (pd_int) (pa_cons (pd_int) (pa_nil)))))))))
/-! _law_number -/
def l__law_number_1 : DS := dAsg (dBin (aAdd false) (dVar 4) (dIf (dTru (dCall f__law_leap (dCons (dVar 5) (dCons (dC (.bl false)) (dNil))))) (dC (.int 366)) (dC (.int 365)))) (dgName 4)
def y__law_number_1 : DE := dCall f__law_long (dCons (dVar 1) (dCons (dVar 5) (dCons (dC (.bl false)) (dNil))))
def b__law_number : DS := dSeq (dAsg (dVar 0) (dgTup 3 (dgCons (dgName 1) (dgCons (dgName 2) (dgCons (dgName 3) (dgNil)))))) (dSeq (dAsg (dBin (aMul false) (dBin aFdiv (dBin aSub (dVar 1) (dC (.int 1))) (dC (.int 400))) (dC (.int 146097))) (dgName 4)) (dSeq (dFor (dRng2 (dBin (aAdd false) (dBin (aMul false) (dBin aFdiv (dBin aSub (dVar 1) (dC (.int 1))) (dC (.int 400))) (dC (.int 400))) (dC (.int 1))) (dVar 1)) (dgName 5) l__law_number_1) (dRet (dBin (aAdd false) (dBin (aAdd false) (dVar 4) (dCall bSum (dCons (dLc false (dRng2 (dC (.int 1)) (dVar 2)) (dgName 5) (dYes) y__law_number_1 [5]) (dNil)))) (dVar 3)))))
def f__law_number : List D → Store → R D := runB 6 b__law_number
theorem fn__law_number (T : Txt g mg) (B : Tbs g mg base) : FnD P w mg base g 3 "_law_number" 1 f__law_number := by
  have F__law_leap := (fn__law_leap (P := P) (w := w) (base := base) T B)
  have F__law_long := (fn__law_long (P := P) (w := w) (base := base) T B)
  refine (fn_D T.d__law_number sc__law_number rfl fun fa cdv A outer s H E O => ?_)
  exact ss_cons (s_asg (pd_var 0) (g_tup O (gs_cons (g_name 1 O) (gs_cons (g_name 2 O) (gs_cons (g_name 3 O) (gs_nil)))))) (ss_cons (s_asg (pd_bin oMul (pd_bin oFdiv (pd_bin oSub (pd_var 1) (pd_int)) (pd_int)) (pd_int)) (g_name 4 O)) (ss_cons (s_for O (i_range2 T.n_range (pd_bin (oAdd O) (pd_bin oMul (pd_bin oFdiv (pd_bin oSub (pd_var 1) (pd_int)) (pd_int)) (pd_int)) (pd_int)) (pd_var 1)) (g_name 5 O) (ss_one (s_asg (pd_bin (oAdd O) (pd_var 4) (pd_if (pt_tru O (pd_call O F__law_leap (by decide) (pa_cons (pd_var 5) (pa_cons (pd_bl) (pa_nil))) (len_cons_ (len_cons_ (fun _ _ _ _ h => len_nil_ h))))) (pd_int) (pd_int))) (g_name 4 O)))) (ss_one (s_ret (pd_bin (oAdd O) (pd_bin (oAdd O) (pd_var 4) (pd_callB (cSum O) T.n_sum PyProof.Rows.boot_sum (pa_cons (pd_lc false (own := [(("one" : Str), 5)]) O (i_range2 T.n_range (pd_int) (pd_var 2)) (blkOk_by (N := ["date", "year", "month", "day", "found", "one"]) (sc := defScope s__law_number) (by decide +kernel)) (fun _ _ _ _ _ => g_name 5 (O.blk _ _ _ _ _)) (fun _ _ _ _ _ => ts_nil) (fun _ _ _ _ _ => pd_call (O.blk _ _ _ _ _) F__law_long (by decide) (pa_cons (pd_var 1) (pa_cons (pd_var 5) (pa_cons (pd_bl) (pa_nil)))) (len_cons_ (len_cons_ (len_cons_ (fun _ _ _ _ h => len_nil_ h)))))) (pa_nil)))) (pd_var 3))))))
/-! _law_old -/
def l__law_old_1 : DS := dAsg (dBin (aAdd false) (dVar 4) (dIf (dTru (dCall f__law_leap (dCons (dVar 5) (dCons (dC (.bl true)) (dNil))))) (dC (.int 366)) (dC (.int 365)))) (dgName 4)
def y__law_old_1 : DE := dCall f__law_long (dCons (dVar 1) (dCons (dVar 5) (dCons (dC (.bl true)) (dNil))))
def b__law_old : DS := dSeq (dAsg (dVar 0) (dgTup 3 (dgCons (dgName 1) (dgCons (dgName 2) (dgCons (dgName 3) (dgNil)))))) (dSeq (dAsg (dBin (aMul false) (dBin aFdiv (dBin aSub (dVar 1) (dC (.int 1))) (dC (.int 4))) (dC (.int 1461))) (dgName 4)) (dSeq (dFor (dRng2 (dBin (aAdd false) (dBin (aMul false) (dBin aFdiv (dBin aSub (dVar 1) (dC (.int 1))) (dC (.int 4))) (dC (.int 4))) (dC (.int 1))) (dVar 1)) (dgName 5) l__law_old_1) (dRet (dBin aSub (dBin (aAdd false) (dBin (aAdd false) (dVar 4) (dCall bSum (dCons (dLc false (dRng2 (dC (.int 1)) (dVar 2)) (dgName 5) (dYes) y__law_old_1 [5]) (dNil)))) (dVar 3)) (dC (.int 2))))))
def f__law_old : List D → Store → R D := runB 6 b__law_old
theorem fn__law_old (T : Txt g mg) (B : Tbs g mg base) : FnD P w mg base g 3 "_law_old" 1 f__law_old := by
  have F__law_leap := (fn__law_leap (P := P) (w := w) (base := base) T B)
  have F__law_long := (fn__law_long (P := P) (w := w) (base := base) T B)
  refine (fn_D T.d__law_old sc__law_old rfl fun fa cdv A outer s H E O => ?_)
  exact ss_cons (s_asg (pd_var 0) (g_tup O (gs_cons (g_name 1 O) (gs_cons (g_name 2 O) (gs_cons (g_name 3 O) (gs_nil)))))) (ss_cons (s_asg (pd_bin oMul (pd_bin oFdiv (pd_bin oSub (pd_var 1) (pd_int)) (pd_int)) (pd_int)) (g_name 4 O)) (ss_cons (s_for O (i_range2 T.n_range (pd_bin (oAdd O) (pd_bin oMul (pd_bin oFdiv (pd_bin oSub (pd_var 1) (pd_int)) (pd_int)) (pd_int)) (pd_int)) (pd_var 1)) (g_name 5 O) (ss_one (s_asg (pd_bin (oAdd O) (pd_var 4) (pd_if (pt_tru O (pd_call O F__law_leap (by decide) (pa_cons (pd_var 5) (pa_cons (pd_bl) (pa_nil))) (len_cons_ (len_cons_ (fun _ _ _ _ h => len_nil_ h))))) (pd_int) (pd_int))) (g_name 4 O)))) (ss_one (s_ret (pd_bin oSub (pd_bin (oAdd O) (pd_bin (oAdd O) (pd_var 4) (pd_callB (cSum O) T.n_sum PyProof.Rows.boot_sum (pa_cons (pd_lc false (own := [(("one" : Str), 5)]) O (i_range2 T.n_range (pd_int) (pd_var 2)) (blkOk_by (N := ["date", "year", "month", "day", "found", "one"]) (sc := defScope s__law_old) (by decide +kernel)) (fun _ _ _ _ _ => g_name 5 (O.blk _ _ _ _ _)) (fun _ _ _ _ _ => ts_nil) (fun _ _ _ _ _ => pd_call (O.blk _ _ _ _ _) F__law_long (by decide) (pa_cons (pd_var 1) (pa_cons (pd_var 5) (pa_cons (pd_bl) (pa_nil)))) (len_cons_ (len_cons_ (len_cons_ (fun _ _ _ _ h => len_nil_ h)))))) (pa_nil)))) (pd_var 3)) (pd_int))))))
/-! is_leap -/
def b_is_leap : DS := dSeq (dIfS (dNot (dB (dChain aLe aLe (dC (.int 1)) (dVar 0) (dC c_MOST_YEAR)))) (dRaise "DayError") (dNext)) (dRet (dAndV (dBin aEq (dBin aMod (dVar 0) (dC (.int 4))) (dC (.int 0))) (dOrV (dBin aNe (dBin aMod (dVar 0) (dC (.int 100))) (dC (.int 0))) (dBin aEq (dBin aMod (dVar 0) (dC (.int 400))) (dC (.int 0))))))
def f_is_leap : List D → Store → R D := runB 1 b_is_leap
theorem fn_is_leap (T : Txt g mg) (B : Tbs g mg base) : FnD P w mg base g 1 "is_leap" 1 f_is_leap := by
  refine (fn_D T.d_is_leap sc_is_leap rfl fun fa cdv A outer s H E O => ?_)
  exact ss_cons (s_if (pt_not (pt_chain oLe oLe (pd_int) (pd_var 0) (pd_glob T.g_MOST_YEAR))) (ss_one (s_raise O T.e_DayError)) (ss_nil)) (ss_one (s_ret (pd_and (pd_cmp (oEq O) (pd_bin oMod (pd_var 0) (pd_int)) (pd_int)) (pd_one (pd_or (pd_cmp (oNe O) (pd_bin oMod (pd_var 0) (pd_int)) (pd_int)) (pd_one (pd_cmp (oEq O) (pd_bin oMod (pd_var 0) (pd_int)) (pd_int))))))))
/-! days_in_month -/
def b_days_in_month : DS := dSeq (dAsg (dCall f_is_leap (dCons (dVar 0) (dNil))) (dgName 2)) (dSeq (dIfS (dNot (dB (dChain aLe aLe (dC (.int 1)) (dVar 1) (dC (.int 12))))) (dRaise "DayError") (dNext)) (dRet (dBin (aAdd false) (dBin aIx (dC c_MONTH_LENGTHS) (dBin aSub (dVar 1) (dC (.int 1)))) (dIf (dAnd (dB (dBin aEq (dVar 1) (dC (.int 2)))) (dTru (dVar 2))) (dC (.int 1)) (dC (.int 0))))))
def f_days_in_month : List D → Store → R D := runB 3 b_days_in_month
theorem fn_days_in_month (T : Txt g mg) (B : Tbs g mg base) : FnD P w mg base g 2 "days_in_month" 2 f_days_in_month := by
  have F_is_leap := (fn_is_leap (P := P) (w := w) (base := base) T B)
  refine (fn_D T.d_days_in_month sc_days_in_month rfl fun fa cdv A outer s H E O => ?_)
  exact ss_cons (s_asg (pd_call O F_is_leap (by decide) (pa_cons (pd_var 0) (pa_nil)) (len_cons_ (fun _ _ _ _ h => len_nil_ h))) (g_name 2 O)) (ss_cons (s_if (pt_not (pt_chain oLe oLe (pd_int) (pd_var 1) (pd_int))) (ss_one (s_raise O T.e_DayError)) (ss_nil)) (ss_one (s_ret (pd_bin (oAdd O) (pd_ix O (pd_glob T.g_MONTH_LENGTHS) (pd_bin oSub (pd_var 1) (pd_int))) (pd_if (pt_w (pw_and (pt_cmp (oEq O) (pd_var 1) (pd_int)) (pw_and1 (pt_tru O (pd_var 2))))) (pd_int) (pd_int))))))
/-! check_date -/
def b_check_date : DS := dSeq (dAsg (dVar 0) (dgTup 3 (dgCons (dgName 1) (dgCons (dgName 2) (dgCons (dgName 3) (dgNil)))))) (dIfS (dNot (dB (dChain aLe aLe (dC (.int 1)) (dVar 3) (dCall f_days_in_month (dCons (dVar 1) (dCons (dVar 2) (dNil))))))) (dRaise "DayError") (dNext))
def f_check_date : List D → Store → R D := runB 4 b_check_date
theorem fn_check_date (T : Txt g mg) (B : Tbs g mg base) : FnD P w mg base g 3 "check_date" 1 f_check_date := by
  have F_days_in_month := (fn_days_in_month (P := P) (w := w) (base := base) T B)
  refine (fn_D T.d_check_date sc_check_date rfl fun fa cdv A outer s H E O => ?_)
  exact ss_cons (s_asg (pd_var 0) (g_tup O (gs_cons (g_name 1 O) (gs_cons (g_name 2 O) (gs_cons (g_name 3 O) (gs_nil)))))) (ss_one (s_if (pt_not (pt_chain oLe oLe (pd_int) (pd_var 3) (pd_call O F_days_in_month (by decide) (pa_cons (pd_var 1) (pa_cons (pd_var 2) (pa_nil))) (len_cons_ (len_cons_ (fun _ _ _ _ h => len_nil_ h)))))) (ss_one (s_raise O T.e_DayError)) (ss_nil)))
/-! days_before_year -/
def b_days_before_year : DS := dSeq (dAsg (dBin aSub (dVar 0) (dC (.int 1))) (dgName 1)) (dRet (dBin (aAdd false) (dBin aSub (dBin (aAdd false) (dBin (aMul false) (dC (.int 365)) (dVar 1)) (dBin aFdiv (dVar 1) (dC (.int 4)))) (dBin aFdiv (dVar 1) (dC (.int 100)))) (dBin aFdiv (dVar 1) (dC (.int 400)))))
def f_days_before_year : List D → Store → R D := runB 2 b_days_before_year
theorem fn_days_before_year (T : Txt g mg) (B : Tbs g mg base) : FnD P w mg base g 1 "days_before_year" 1 f_days_before_year := by
  refine (fn_D T.d_days_before_year sc_days_before_year rfl fun fa cdv A outer s H E O => ?_)
  exact ss_cons (s_asg (pd_bin oSub (pd_var 0) (pd_int)) (g_name 1 O)) (ss_one (s_ret (pd_bin (oAdd O) (pd_bin oSub (pd_bin (oAdd O) (pd_bin oMul (pd_int) (pd_var 1)) (pd_bin oFdiv (pd_var 1) (pd_int))) (pd_bin oFdiv (pd_var 1) (pd_int))) (pd_bin oFdiv (pd_var 1) (pd_int)))))
/-! day_number -/
def b_day_number : DS := dSeq (dDrop (dCall f_check_date (dCons (dVar 0) (dNil)))) (dSeq (dAsg (dVar 0) (dgTup 3 (dgCons (dgName 1) (dgCons (dgName 2) (dgCons (dgName 3) (dgNil)))))) (dSeq (dAsg (dBin (aAdd false) (dCall bSum (dCons (dSl false (dC c_MONTH_LENGTHS) (dNoP) (dP (dBin aSub (dVar 2) (dC (.int 1))))) (dNil))) (dIf (dAnd (dB (dBin aGt (dVar 2) (dC (.int 2)))) (dTru (dCall f_is_leap (dCons (dVar 1) (dNil))))) (dC (.int 1)) (dC (.int 0)))) (dgName 4)) (dRet (dBin (aAdd false) (dBin (aAdd false) (dCall f_days_before_year (dCons (dVar 1) (dNil))) (dVar 4)) (dVar 3)))))
def f_day_number : List D → Store → R D := runB 5 b_day_number
theorem fn_day_number (T : Txt g mg) (B : Tbs g mg base) : FnD P w mg base g 4 "day_number" 1 f_day_number := by
  have F_check_date := (fn_check_date (P := P) (w := w) (base := base) T B)
  have F_days_before_year := (fn_days_before_year (P := P) (w := w) (base := base) T B)
  have F_is_leap := (fn_is_leap (P := P) (w := w) (base := base) T B)
  refine (fn_D T.d_day_number sc_day_number rfl fun fa cdv A outer s H E O => ?_)
  exact ss_cons (s_expr (pd_call O F_check_date (by decide) (pa_cons (pd_var 0) (pa_nil)) (len_cons_ (fun _ _ _ _ h => len_nil_ h)))) (ss_cons (s_asg (pd_var 0) (g_tup O (gs_cons (g_name 1 O) (gs_cons (g_name 2 O) (gs_cons (g_name 3 O) (gs_nil)))))) (ss_cons (s_asg (pd_bin (oAdd O) (pd_callB (cSum O) T.n_sum PyProof.Rows.boot_sum (pa_cons (pd_slice false O (pd_glob T.g_MONTH_LENGTHS) (po_none) (po_some (pd_bin oSub (pd_var 2) (pd_int)))) (pa_nil))) (pd_if (pt_w (pw_and (pt_cmp oGt (pd_var 2) (pd_int)) (pw_and1 (pt_tru O (pd_call O F_is_leap (by decide) (pa_cons (pd_var 1) (pa_nil)) (len_cons_ (fun _ _ _ _ h => len_nil_ h))))))) (pd_int) (pd_int))) (g_name 4 O)) (ss_one (s_ret (pd_bin (oAdd O) (pd_bin (oAdd O) (pd_call O F_days_before_year (by decide) (pa_cons (pd_var 1) (pa_nil)) (len_cons_ (fun _ _ _ _ h => len_nil_ h))) (pd_var 4)) (pd_var 3))))))
/-! old_number -/
def b_old_number : DS := dSeq (dAsg (dVar 0) (dgTup 3 (dgCons (dgName 1) (dgCons (dgName 2) (dgCons (dgName 3) (dgNil)))))) (dSeq (dIfS (dOr (dNot (dB (dChain aLe aLe (dC (.int 1)) (dVar 1) (dC c_MOST_YEAR)))) (dNot (dB (dChain aLe aLe (dC (.int 1)) (dVar 2) (dC (.int 12)))))) (dRaise "DayError") (dNext)) (dSeq (dAsg (dIf (dAnd (dB (dBin aEq (dVar 2) (dC (.int 2)))) (dB (dBin aEq (dBin aMod (dVar 1) (dC (.int 4))) (dC (.int 0))))) (dC (.int 29)) (dBin aIx (dC c_MONTH_LENGTHS) (dBin aSub (dVar 2) (dC (.int 1))))) (dgName 4)) (dSeq (dIfS (dNot (dB (dChain aLe aLe (dC (.int 1)) (dVar 3) (dVar 4)))) (dRaise "DayError") (dNext)) (dSeq (dAsg (dBin aSub (dVar 1) (dC (.int 1))) (dgName 5)) (dSeq (dAsg (dBin (aAdd false) (dCall bSum (dCons (dSl false (dC c_MONTH_LENGTHS) (dNoP) (dP (dBin aSub (dVar 2) (dC (.int 1))))) (dNil))) (dIf (dAnd (dB (dBin aGt (dVar 2) (dC (.int 2)))) (dB (dBin aEq (dBin aMod (dVar 1) (dC (.int 4))) (dC (.int 0))))) (dC (.int 1)) (dC (.int 0)))) (dgName 6)) (dSeq (dAsg (dBin aSub (dBin (aAdd false) (dBin (aAdd false) (dBin (aAdd false) (dBin (aMul false) (dC (.int 365)) (dVar 5)) (dBin aFdiv (dVar 5) (dC (.int 4)))) (dVar 6)) (dVar 3)) (dC (.int 2))) (dgName 7)) (dSeq (dIfS (dB (dBin aLt (dVar 7) (dC (.int 1)))) (dRaise "DayError") (dNext)) (dRet (dVar 7)))))))))
def f_old_number : List D → Store → R D := runB 8 b_old_number
theorem fn_old_number (T : Txt g mg) (B : Tbs g mg base) : FnD P w mg base g 1 "old_number" 1 f_old_number := by
  refine (fn_D T.d_old_number sc_old_number rfl fun fa cdv A outer s H E O => ?_)
  exact ss_cons (s_asg (pd_var 0) (g_tup O (gs_cons (g_name 1 O) (gs_cons (g_name 2 O) (gs_cons (g_name 3 O) (gs_nil)))))) (ss_cons (s_if (pt_w (pw_or (pt_not (pt_chain oLe oLe (pd_int) (pd_var 1) (pd_glob T.g_MOST_YEAR))) (pw_or1 (pt_not (pt_chain oLe oLe (pd_int) (pd_var 2) (pd_int)))))) (ss_one (s_raise O T.e_DayError)) (ss_nil)) (ss_cons (s_asg (pd_if (pt_w (pw_and (pt_cmp (oEq O) (pd_var 2) (pd_int)) (pw_and1 (pt_cmp (oEq O) (pd_bin oMod (pd_var 1) (pd_int)) (pd_int))))) (pd_int) (pd_ix O (pd_glob T.g_MONTH_LENGTHS) (pd_bin oSub (pd_var 2) (pd_int)))) (g_name 4 O)) (ss_cons (s_if (pt_not (pt_chain oLe oLe (pd_int) (pd_var 3) (pd_var 4))) (ss_one (s_raise O T.e_DayError)) (ss_nil)) (ss_cons (s_asg (pd_bin oSub (pd_var 1) (pd_int)) (g_name 5 O)) (ss_cons (s_asg (pd_bin (oAdd O) (pd_callB (cSum O) T.n_sum PyProof.Rows.boot_sum (pa_cons (pd_slice false O (pd_glob T.g_MONTH_LENGTHS) (po_none) (po_some (pd_bin oSub (pd_var 2) (pd_int)))) (pa_nil))) (pd_if (pt_w (pw_and (pt_cmp oGt (pd_var 2) (pd_int)) (pw_and1 (pt_cmp (oEq O) (pd_bin oMod (pd_var 1) (pd_int)) (pd_int))))) (pd_int) (pd_int))) (g_name 6 O)) (ss_cons (s_asg (pd_bin oSub (pd_bin (oAdd O) (pd_bin (oAdd O) (pd_bin (oAdd O) (pd_bin oMul (pd_int) (pd_var 5)) (pd_bin oFdiv (pd_var 5) (pd_int))) (pd_var 6)) (pd_var 3)) (pd_int)) (g_name 7 O)) (ss_cons (s_if (pt_cmp (oLt O) (pd_var 7) (pd_int)) (ss_one (s_raise O T.e_DayError)) (ss_nil)) (ss_one (s_ret (pd_var 7))))))))))
/-! apart_calendars -/
def b_apart_calendars : DS := dRet (dBin aSub (dCall f_old_number (dCons (dVar 0) (dNil))) (dCall f_day_number (dCons (dVar 0) (dNil))))
def f_apart_calendars : List D → Store → R D := runB 1 b_apart_calendars
theorem fn_apart_calendars (T : Txt g mg) (B : Tbs g mg base) : FnD P w mg base g 5 "apart_calendars" 1 f_apart_calendars := by
  have F_day_number := (fn_day_number (P := P) (w := w) (base := base) T B)
  have F_old_number := (fn_old_number (P := P) (w := w) (base := base) T B)
  refine (fn_D T.d_apart_calendars sc_apart_calendars rfl fun fa cdv A outer s H E O => ?_)
  exact ss_one (s_ret (pd_bin oSub (pd_call O F_old_number (by decide) (pa_cons (pd_var 0) (pa_nil)) (len_cons_ (fun _ _ _ _ h => len_nil_ h))) (pd_call O F_day_number (by decide) (pa_cons (pd_var 0) (pa_nil)) (len_cons_ (fun _ _ _ _ h => len_nil_ h)))))
/-! check_number -/
def b_check_number : DS := dIfS (dNot (dB (dChain aLe aLe (dC (.int 1)) (dVar 0) (dC (.int 3652059))))) (dRaise "DayError") (dNext)
def f_check_number : List D → Store → R D := runB 1 b_check_number
theorem fn_check_number (T : Txt g mg) (B : Tbs g mg base) : FnD P w mg base g 1 "check_number" 1 f_check_number := by
  refine (fn_D T.d_check_number sc_check_number rfl fun fa cdv A outer s H E O => ?_)
  exact ss_one (s_if (pt_not (pt_chain oLe oLe (pd_int) (pd_var 0) (pd_int))) (ss_one (s_raise O T.e_DayError)) (ss_nil))
/-! date_of -/
def t_date_of_1 : DT := dB (dBin aLt (dCall f_days_before_year (dCons (dBin (aAdd false) (dVar 1) (dC (.int 1))) (dNil))) (dVar 0))
def w_date_of_1 : DS := dAug 1 aAddI (dC (.int 1))
def t_date_of_2 : DT := dB (dBin aGt (dVar 2) (dVar 5))
def w_date_of_2 : DS := dSeq (dAug 2 aSub (dVar 5)) (dSeq (dAug 3 aAddI (dC (.int 1))) (dAsg (dBin (aAdd false) (dBin aIx (dC c_MONTH_LENGTHS) (dBin aSub (dVar 3) (dC (.int 1)))) (dIf (dAnd (dB (dBin aEq (dVar 3) (dC (.int 2)))) (dTru (dVar 4))) (dC (.int 1)) (dC (.int 0)))) (dgName 5)))
def b_date_of : DS := dSeq (dDrop (dCall f_check_number (dCons (dVar 0) (dNil)))) (dSeq (dAsg (dCall bMax2 (dCons (dC (.int 1)) (dCons (dBin aFdiv (dBin (aMul false) (dBin aSub (dVar 0) (dC (.int 1))) (dC (.int 400))) (dC (.int 146097))) (dNil)))) (dgName 1)) (dSeq (dWhile t_date_of_1 w_date_of_1) (dSeq (dPar [2, 3, 4] (dCons (dBin aSub (dVar 0) (dCall f_days_before_year (dCons (dVar 1) (dNil)))) (dCons (dC (.int 1)) (dCons (dCall f_is_leap (dCons (dVar 1) (dNil))) (dNil))))) (dSeq (dAsg (dC (.int 31)) (dgName 5)) (dSeq (dWhile t_date_of_2 w_date_of_2) (dRet (dTup (dCons (dVar 1) (dCons (dVar 3) (dCons (dVar 2) (dNil)))))))))))
def f_date_of : List D → Store → R D := runB 6 b_date_of
theorem fn_date_of (T : Txt g mg) (B : Tbs g mg base) : FnD P w mg base g 2 "date_of" 1 f_date_of := by
  have F_check_number := (fn_check_number (P := P) (w := w) (base := base) T B)
  have F_days_before_year := (fn_days_before_year (P := P) (w := w) (base := base) T B)
  have F_is_leap := (fn_is_leap (P := P) (w := w) (base := base) T B)
  refine (fn_D T.d_date_of sc_date_of rfl fun fa cdv A outer s H E O => ?_)
  exact ss_cons (s_expr (pd_call O F_check_number (by decide) (pa_cons (pd_var 0) (pa_nil)) (len_cons_ (fun _ _ _ _ h => len_nil_ h)))) (ss_cons (s_asg (pd_callB (cMax2 O) T.n_max PyProof.Rows.boot_max (pa_cons (pd_int) (pa_cons (pd_bin oFdiv (pd_bin oMul (pd_bin oSub (pd_var 0) (pd_int)) (pd_int)) (pd_int)) (pa_nil)))) (g_name 1 O)) (ss_cons (s_while O (pt_cmp (oLt O) (pd_call O F_days_before_year (by decide) (pa_cons (pd_bin (oAdd O) (pd_var 1) (pd_int)) (pa_nil)) (len_cons_ (fun _ _ _ _ h => len_nil_ h))) (pd_var 0)) (ss_one (s_addI (i := 1) O (pd_int)))) (ss_cons (s_par3 (i := 2) (j := 3) (l := 4) O (pa_cons (pd_bin oSub (pd_var 0) (pd_call O F_days_before_year (by decide) (pa_cons (pd_var 1) (pa_nil)) (len_cons_ (fun _ _ _ _ h => len_nil_ h)))) (pa_cons (pd_int) (pa_cons (pd_call O F_is_leap (by decide) (pa_cons (pd_var 1) (pa_nil)) (len_cons_ (fun _ _ _ _ h => len_nil_ h))) (pa_nil))))) (ss_cons (s_asg (pd_int) (g_name 5 O)) (ss_cons (s_while O (pt_cmp oGt (pd_var 2) (pd_var 5)) (ss_cons (s_subI (i := 2) O (pd_var 5)) (ss_cons (s_addI (i := 3) O (pd_int)) (ss_one (s_asg (pd_bin (oAdd O) (pd_ix O (pd_glob T.g_MONTH_LENGTHS) (pd_bin oSub (pd_var 3) (pd_int))) (pd_if (pt_w (pw_and (pt_cmp (oEq O) (pd_var 3) (pd_int)) (pw_and1 (pt_tru O (pd_var 4))))) (pd_int) (pd_int))) (g_name 5 O)))))) (ss_one (s_ret (pd_tup (pa_cons (pd_var 1) (pa_cons (pd_var 3) (pa_cons (pd_var 2) (pa_nil))))))))))))
/-! by_day_of_year -/
def b_by_day_of_year : DS := dSeq (dIfS (dNot (dB (dChain aLe aLe (dC (.int 1)) (dVar 1) (dIf (dTru (dCall f_is_leap (dCons (dVar 0) (dNil)))) (dC (.int 366)) (dC (.int 365)))))) (dRaise "DayError") (dNext)) (dRet (dCall f_date_of (dCons (dBin (aAdd false) (dCall f_days_before_year (dCons (dVar 0) (dNil))) (dVar 1)) (dNil))))
def f_by_day_of_year : List D → Store → R D := runB 2 b_by_day_of_year
theorem fn_by_day_of_year (T : Txt g mg) (B : Tbs g mg base) : FnD P w mg base g 3 "by_day_of_year" 2 f_by_day_of_year := by
  have F_date_of := (fn_date_of (P := P) (w := w) (base := base) T B)
  have F_days_before_year := (fn_days_before_year (P := P) (w := w) (base := base) T B)
  have F_is_leap := (fn_is_leap (P := P) (w := w) (base := base) T B)
  refine (fn_D T.d_by_day_of_year sc_by_day_of_year rfl fun fa cdv A outer s H E O => ?_)
  exact ss_cons (s_if (pt_not (pt_chain oLe oLe (pd_int) (pd_var 1) (pd_if (pt_tru O (pd_call O F_is_leap (by decide) (pa_cons (pd_var 0) (pa_nil)) (len_cons_ (fun _ _ _ _ h => len_nil_ h)))) (pd_int) (pd_int)))) (ss_one (s_raise O T.e_DayError)) (ss_nil)) (ss_one (s_ret (pd_call O F_date_of (by decide) (pa_cons (pd_bin (oAdd O) (pd_call O F_days_before_year (by decide) (pa_cons (pd_var 0) (pa_nil)) (len_cons_ (fun _ _ _ _ h => len_nil_ h))) (pd_var 1)) (pa_nil)) (len_cons_ (fun _ _ _ _ h => len_nil_ h)))))
/-! day_of_year -/
def b_day_of_year : DS := dRet (dBin aSub (dCall f_day_number (dCons (dVar 0) (dNil))) (dCall f_days_before_year (dCons (dBin aIx (dVar 0) (dC (.int 0))) (dNil))))
def f_day_of_year : List D → Store → R D := runB 1 b_day_of_year
theorem fn_day_of_year (T : Txt g mg) (B : Tbs g mg base) : FnD P w mg base g 5 "day_of_year" 1 f_day_of_year := by
  have F_day_number := (fn_day_number (P := P) (w := w) (base := base) T B)
  have F_days_before_year := (fn_days_before_year (P := P) (w := w) (base := base) T B)
  refine (fn_D T.d_day_of_year sc_day_of_year rfl fun fa cdv A outer s H E O => ?_)
  exact ss_one (s_ret (pd_bin oSub (pd_call O F_day_number (by decide) (pa_cons (pd_var 0) (pa_nil)) (len_cons_ (fun _ _ _ _ h => len_nil_ h))) (pd_call O F_days_before_year (by decide) (pa_cons (pd_ix O (pd_var 0) (pd_int)) (pa_nil)) (len_cons_ (fun _ _ _ _ h => len_nil_ h)))))
/-! days_from -/
def b_days_from : DS := dRet (dBin aSub (dCall f_day_number (dCons (dVar 1) (dNil))) (dCall f_day_number (dCons (dVar 0) (dNil))))
def f_days_from : List D → Store → R D := runB 2 b_days_from
theorem fn_days_from (T : Txt g mg) (B : Tbs g mg base) : FnD P w mg base g 5 "days_from" 2 f_days_from := by
  have F_day_number := (fn_day_number (P := P) (w := w) (base := base) T B)
  refine (fn_D T.d_days_from sc_days_from rfl fun fa cdv A outer s H E O => ?_)
  exact ss_one (s_ret (pd_bin oSub (pd_call O F_day_number (by decide) (pa_cons (pd_var 1) (pa_nil)) (len_cons_ (fun _ _ _ _ h => len_nil_ h))) (pd_call O F_day_number (by decide) (pa_cons (pd_var 0) (pa_nil)) (len_cons_ (fun _ _ _ _ h => len_nil_ h)))))
/-! is_ahead -/
def b_is_ahead : DS := dRet (dBin aLt (dCall f_day_number (dCons (dVar 0) (dNil))) (dCall f_day_number (dCons (dVar 1) (dNil))))
def f_is_ahead : List D → Store → R D := runB 2 b_is_ahead
theorem fn_is_ahead (T : Txt g mg) (B : Tbs g mg base) : FnD P w mg base g 5 "is_ahead" 2 f_is_ahead := by
  have F_day_number := (fn_day_number (P := P) (w := w) (base := base) T B)
  refine (fn_D T.d_is_ahead sc_is_ahead rfl fun fa cdv A outer s H E O => ?_)
  exact ss_one (s_ret (pd_cmp (oLt O) (pd_call O F_day_number (by decide) (pa_cons (pd_var 0) (pa_nil)) (len_cons_ (fun _ _ _ _ h => len_nil_ h))) (pd_call O F_day_number (by decide) (pa_cons (pd_var 1) (pa_nil)) (len_cons_ (fun _ _ _ _ h => len_nil_ h)))))
/-! later -/
def b_later : DS := dRet (dCall f_date_of (dCons (dBin (aAdd false) (dCall f_day_number (dCons (dVar 0) (dNil))) (dVar 1)) (dNil)))
def f_later : List D → Store → R D := runB 2 b_later
theorem fn_later (T : Txt g mg) (B : Tbs g mg base) : FnD P w mg base g 5 "later" 2 f_later := by
  have F_date_of := (fn_date_of (P := P) (w := w) (base := base) T B)
  have F_day_number := (fn_day_number (P := P) (w := w) (base := base) T B)
  refine (fn_D T.d_later sc_later rfl fun fa cdv A outer s H E O => ?_)
  exact ss_one (s_ret (pd_call O F_date_of (by decide) (pa_cons (pd_bin (oAdd O) (pd_call O F_day_number (by decide) (pa_cons (pd_var 0) (pa_nil)) (len_cons_ (fun _ _ _ _ h => len_nil_ h))) (pd_var 1)) (pa_nil)) (len_cons_ (fun _ _ _ _ h => len_nil_ h))))
/-! month_length_old -/
def b_month_length_old : DS := dRet (dIf (dAnd (dB (dBin aEq (dVar 1) (dC (.int 2)))) (dB (dBin aEq (dBin aMod (dVar 0) (dC (.int 4))) (dC (.int 0))))) (dC (.int 29)) (dBin aIx (dC c_MONTH_LENGTHS) (dBin aSub (dVar 1) (dC (.int 1)))))
def f_month_length_old : List D → Store → R D := runB 2 b_month_length_old
theorem fn_month_length_old (T : Txt g mg) (B : Tbs g mg base) : FnD P w mg base g 1 "month_length_old" 2 f_month_length_old := by
  refine (fn_D T.d_month_length_old sc_month_length_old rfl fun fa cdv A outer s H E O => ?_)
  exact ss_one (s_ret (pd_if (pt_w (pw_and (pt_cmp (oEq O) (pd_var 1) (pd_int)) (pw_and1 (pt_cmp (oEq O) (pd_bin oMod (pd_var 0) (pd_int)) (pd_int))))) (pd_int) (pd_ix O (pd_glob T.g_MONTH_LENGTHS) (pd_bin oSub (pd_var 1) (pd_int)))))
/-! old_date -/
def t_old_date_1 : DT := dB (dBin aGe (dVar 3) (dCall f_month_length_old (dCons (dVar 4) (dCons (dVar 5) (dNil)))))
def w_old_date_1 : DS := dSeq (dAug 3 aSub (dCall f_month_length_old (dCons (dVar 4) (dCons (dVar 5) (dNil))))) (dAug 5 aAddI (dC (.int 1)))
def b_old_date : DS := dSeq (dDrop (dCall f_date_of (dCons (dVar 0) (dNil)))) (dSeq (dAsg (dBin (aAdd false) (dVar 0) (dC (.int 1))) (dgName 1)) (dSeq (dPar [2, 3] (dCons (dBin aFdiv (dVar 1) (dC (.int 1461))) (dCons (dBin aMod (dVar 1) (dC (.int 1461))) (dNil)))) (dSeq (dAsg (dBin (aAdd false) (dBin (aAdd false) (dBin (aMul false) (dC (.int 4)) (dVar 2)) (dCall bMin2 (dCons (dBin aFdiv (dVar 3) (dC (.int 365))) (dCons (dC (.int 3)) (dNil))))) (dC (.int 1))) (dgName 4)) (dSeq (dAsg (dBin aSub (dBin aSub (dVar 1) (dBin (aMul false) (dC (.int 365)) (dBin aSub (dVar 4) (dC (.int 1))))) (dBin aFdiv (dBin aSub (dVar 4) (dC (.int 1))) (dC (.int 4)))) (dgName 3)) (dSeq (dAsg (dC (.int 1)) (dgName 5)) (dSeq (dWhile t_old_date_1 w_old_date_1) (dRet (dTup (dCons (dVar 4) (dCons (dVar 5) (dCons (dBin (aAdd false) (dVar 3) (dC (.int 1))) (dNil))))))))))))
def f_old_date : List D → Store → R D := runB 6 b_old_date
theorem fn_old_date (T : Txt g mg) (B : Tbs g mg base) : FnD P w mg base g 3 "old_date" 1 f_old_date := by
  have F_date_of := (fn_date_of (P := P) (w := w) (base := base) T B)
  have F_month_length_old := (fn_month_length_old (P := P) (w := w) (base := base) T B)
  refine (fn_D T.d_old_date sc_old_date rfl fun fa cdv A outer s H E O => ?_)
  exact ss_cons (s_expr (pd_call O F_date_of (by decide) (pa_cons (pd_var 0) (pa_nil)) (len_cons_ (fun _ _ _ _ h => len_nil_ h)))) (ss_cons (s_asg (pd_bin (oAdd O) (pd_var 0) (pd_int)) (g_name 1 O)) (ss_cons (s_par (i := 2) (j := 3) O (pa_cons (pd_bin oFdiv (pd_var 1) (pd_int)) (pa_cons (pd_bin oMod (pd_var 1) (pd_int)) (pa_nil)))) (ss_cons (s_asg (pd_bin (oAdd O) (pd_bin (oAdd O) (pd_bin oMul (pd_int) (pd_var 2)) (pd_callB (cMin2 O) T.n_min PyProof.Rows.boot_min (pa_cons (pd_bin oFdiv (pd_var 3) (pd_int)) (pa_cons (pd_int) (pa_nil))))) (pd_int)) (g_name 4 O)) (ss_cons (s_asg (pd_bin oSub (pd_bin oSub (pd_var 1) (pd_bin oMul (pd_int) (pd_bin oSub (pd_var 4) (pd_int)))) (pd_bin oFdiv (pd_bin oSub (pd_var 4) (pd_int)) (pd_int))) (g_name 3 O)) (ss_cons (s_asg (pd_int) (g_name 5 O)) (ss_cons (s_while O (pt_cmp oGe (pd_var 3) (pd_call O F_month_length_old (by decide) (pa_cons (pd_var 4) (pa_cons (pd_var 5) (pa_nil))) (len_cons_ (len_cons_ (fun _ _ _ _ h => len_nil_ h))))) (ss_cons (s_subI (i := 3) O (pd_call O F_month_length_old (by decide) (pa_cons (pd_var 4) (pa_cons (pd_var 5) (pa_nil))) (len_cons_ (len_cons_ (fun _ _ _ _ h => len_nil_ h))))) (ss_one (s_addI (i := 5) O (pd_int))))) (ss_one (s_ret (pd_tup (pa_cons (pd_var 4) (pa_cons (pd_var 5) (pa_cons (pd_bin (oAdd O) (pd_var 3) (pd_int)) (pa_nil)))))))))))))
/-! weekday_of -/
def b_weekday_of : DS := dSeq (dDrop (dCall f_check_number (dCons (dVar 0) (dNil)))) (dRet (dBin aMod (dBin aSub (dVar 0) (dC (.int 1))) (dC (.int 7))))
def f_weekday_of : List D → Store → R D := runB 1 b_weekday_of
theorem fn_weekday_of (T : Txt g mg) (B : Tbs g mg base) : FnD P w mg base g 2 "weekday_of" 1 f_weekday_of := by
  have F_check_number := (fn_check_number (P := P) (w := w) (base := base) T B)
  refine (fn_D T.d_weekday_of sc_weekday_of rfl fun fa cdv A outer s H E O => ?_)
  exact ss_cons (s_expr (pd_call O F_check_number (by decide) (pa_cons (pd_var 0) (pa_nil)) (len_cons_ (fun _ _ _ _ h => len_nil_ h)))) (ss_one (s_ret (pd_bin oMod (pd_bin oSub (pd_var 0) (pd_int)) (pd_int))))
/-- what the lambdas of the text do -/
def tab (n : Nat) (st : Store) : R D := match n with
  | 0 => (dCall f_is_leap (dCons (dC (.int 0)) (dNil))) [] st
  | 1 => (dCall f_is_leap (dCons (dC (.int 10000)) (dNil))) [] st
  | 2 => (dCall f_days_in_month (dCons (dC (.int 2000)) (dCons (dC (.int 0)) (dNil)))) [] st
  | 3 => (dCall f_days_in_month (dCons (dC (.int 2000)) (dCons (dC (.int 13)) (dNil)))) [] st
  | 4 => (dCall f_check_date (dCons (dTup (dCons (dC (.int 2023)) (dCons (dC (.int 2)) (dCons (dC (.int 29)) (dNil))))) (dNil))) [] st
  | 5 => (dCall f_check_date (dCons (dTup (dCons (dC (.int 2023)) (dCons (dC (.int 4)) (dCons (dC (.int 31)) (dNil))))) (dNil))) [] st
  | 6 => (dCall f_check_date (dCons (dTup (dCons (dC (.int 2023)) (dCons (dC (.int 1)) (dCons (dC (.int 0)) (dNil))))) (dNil))) [] st
  | 7 => (dCall f_day_number (dCons (dTup (dCons (dC (.int 0)) (dCons (dC (.int 1)) (dCons (dC (.int 1)) (dNil))))) (dNil))) [] st
  | 8 => (dCall f_date_of (dCons (dC (.int 0)) (dNil))) [] st
  | 9 => (dCall f_date_of (dCons (dC (.int 3652060)) (dNil))) [] st
  | 10 => (dCall f_weekday_of (dCons (dC (.int 0)) (dNil))) [] st
  | 11 => (dCall f_day_of_year (dCons (dTup (dCons (dC (.int 2023)) (dCons (dC (.int 2)) (dCons (dC (.int 29)) (dNil))))) (dNil))) [] st
  | 12 => (dCall f_by_day_of_year (dCons (dC (.int 2023)) (dCons (dC (.int 366)) (dNil)))) [] st
  | 13 => (dCall f_by_day_of_year (dCons (dC (.int 2023)) (dCons (dC (.int 0)) (dNil)))) [] st
  | 14 => (dCall f_days_from (dCons (dTup (dCons (dC (.int 1)) (dCons (dC (.int 1)) (dCons (dC (.int 1)) (dNil))))) (dCons (dTup (dCons (dC (.int 0)) (dCons (dC (.int 1)) (dCons (dC (.int 1)) (dNil))))) (dNil)))) [] st
  | 15 => (dCall f_later (dCons (dTup (dCons (dC (.int 1)) (dCons (dC (.int 1)) (dCons (dC (.int 1)) (dNil))))) (dCons (dNeg (dC (.int 1))) (dNil)))) [] st
  | 16 => (dCall f_later (dCons (dTup (dCons (dC (.int 9999)) (dCons (dC (.int 12)) (dCons (dC (.int 31)) (dNil))))) (dCons (dC (.int 1)) (dNil)))) [] st
  | 17 => (dCall f_old_number (dCons (dTup (dCons (dC (.int 2023)) (dCons (dC (.int 2)) (dCons (dC (.int 29)) (dNil))))) (dNil))) [] st
  | 18 => (dCall f_old_number (dCons (dTup (dCons (dC (.int 0)) (dCons (dC (.int 1)) (dCons (dC (.int 1)) (dNil))))) (dNil))) [] st
  | 19 => (dCall f_old_number (dCons (dTup (dCons (dC (.int 2023)) (dCons (dC (.int 13)) (dCons (dC (.int 1)) (dNil))))) (dNil))) [] st
  | 20 => (dCall f_old_number (dCons (dTup (dCons (dC (.int 1)) (dCons (dC (.int 1)) (dCons (dC (.int 2)) (dNil))))) (dNil))) [] st
  | 21 => (dCall f_old_date (dCons (dC (.int 0)) (dNil))) [] st
  | 22 => (dCall f_apart_calendars (dCons (dTup (dCons (dC (.int 1)) (dCons (dC (.int 1)) (dCons (dC (.int 1)) (dNil))))) (dNil))) [] st
  | 23 => (dCall f_is_ahead (dCons (dTup (dCons (dC (.int 1)) (dCons (dC (.int 1)) (dCons (dC (.int 1)) (dNil))))) (dCons (dTup (dCons (dC (.int 1)) (dCons (dC (.int 13)) (dCons (dC (.int 1)) (dNil))))) (dNil)))) [] st
  | _ => .bad
theorem lok_0 (T : Txt g mg) (B : Tbs g mg base) : LamOk lam_0 ∧ ∀ (A : Around) (outer : List PySem.Env) (s : Shared) (H : Hp) (E : XK) (f c : Addr), Ok (lamCx0 P w g.K mg base lam_0 A outer s H E f c) g (WB E) 5 → PD (lamCx0 P w g.K mg base lam_0 A outer s H E f c) g (WB E) lam_0.body (fun _ st => tab 0 st) := by
  have F_is_leap := (fn_is_leap (P := P) (w := w) (base := base) T B)
  refine ⟨lamOk_by (by decide +kernel) (by intros; rfl), fun A outer s H E f c O => ?_⟩
  exact (pd_call O F_is_leap (by decide) (pa_cons (pd_int) (pa_nil)) (len_cons_ (fun _ _ _ _ h => len_nil_ h)) : PD _ g (WB E) lam_0.body (dCall f_is_leap (dCons (dC (.int 0)) (dNil))))
theorem lok_1 (T : Txt g mg) (B : Tbs g mg base) : LamOk lam_1 ∧ ∀ (A : Around) (outer : List PySem.Env) (s : Shared) (H : Hp) (E : XK) (f c : Addr), Ok (lamCx0 P w g.K mg base lam_1 A outer s H E f c) g (WB E) 5 → PD (lamCx0 P w g.K mg base lam_1 A outer s H E f c) g (WB E) lam_1.body (fun _ st => tab 1 st) := by
  have F_is_leap := (fn_is_leap (P := P) (w := w) (base := base) T B)
  refine ⟨lamOk_by (by decide +kernel) (by intros; rfl), fun A outer s H E f c O => ?_⟩
  exact (pd_call O F_is_leap (by decide) (pa_cons (pd_int) (pa_nil)) (len_cons_ (fun _ _ _ _ h => len_nil_ h)) : PD _ g (WB E) lam_1.body (dCall f_is_leap (dCons (dC (.int 10000)) (dNil))))
theorem lok_2 (T : Txt g mg) (B : Tbs g mg base) : LamOk lam_2 ∧ ∀ (A : Around) (outer : List PySem.Env) (s : Shared) (H : Hp) (E : XK) (f c : Addr), Ok (lamCx0 P w g.K mg base lam_2 A outer s H E f c) g (WB E) 5 → PD (lamCx0 P w g.K mg base lam_2 A outer s H E f c) g (WB E) lam_2.body (fun _ st => tab 2 st) := by
  have F_days_in_month := (fn_days_in_month (P := P) (w := w) (base := base) T B)
  refine ⟨lamOk_by (by decide +kernel) (by intros; rfl), fun A outer s H E f c O => ?_⟩
  exact (pd_call O F_days_in_month (by decide) (pa_cons (pd_int) (pa_cons (pd_int) (pa_nil))) (len_cons_ (len_cons_ (fun _ _ _ _ h => len_nil_ h))) : PD _ g (WB E) lam_2.body (dCall f_days_in_month (dCons (dC (.int 2000)) (dCons (dC (.int 0)) (dNil)))))
theorem lok_3 (T : Txt g mg) (B : Tbs g mg base) : LamOk lam_3 ∧ ∀ (A : Around) (outer : List PySem.Env) (s : Shared) (H : Hp) (E : XK) (f c : Addr), Ok (lamCx0 P w g.K mg base lam_3 A outer s H E f c) g (WB E) 5 → PD (lamCx0 P w g.K mg base lam_3 A outer s H E f c) g (WB E) lam_3.body (fun _ st => tab 3 st) := by
  have F_days_in_month := (fn_days_in_month (P := P) (w := w) (base := base) T B)
  refine ⟨lamOk_by (by decide +kernel) (by intros; rfl), fun A outer s H E f c O => ?_⟩
  exact (pd_call O F_days_in_month (by decide) (pa_cons (pd_int) (pa_cons (pd_int) (pa_nil))) (len_cons_ (len_cons_ (fun _ _ _ _ h => len_nil_ h))) : PD _ g (WB E) lam_3.body (dCall f_days_in_month (dCons (dC (.int 2000)) (dCons (dC (.int 13)) (dNil)))))
theorem lok_4 (T : Txt g mg) (B : Tbs g mg base) : LamOk lam_4 ∧ ∀ (A : Around) (outer : List PySem.Env) (s : Shared) (H : Hp) (E : XK) (f c : Addr), Ok (lamCx0 P w g.K mg base lam_4 A outer s H E f c) g (WB E) 5 → PD (lamCx0 P w g.K mg base lam_4 A outer s H E f c) g (WB E) lam_4.body (fun _ st => tab 4 st) := by
  have F_check_date := (fn_check_date (P := P) (w := w) (base := base) T B)
  refine ⟨lamOk_by (by decide +kernel) (by intros; rfl), fun A outer s H E f c O => ?_⟩
  exact (pd_call O F_check_date (by decide) (pa_cons (pd_tup (pa_cons (pd_int) (pa_cons (pd_int) (pa_cons (pd_int) (pa_nil))))) (pa_nil)) (len_cons_ (fun _ _ _ _ h => len_nil_ h)) : PD _ g (WB E) lam_4.body (dCall f_check_date (dCons (dTup (dCons (dC (.int 2023)) (dCons (dC (.int 2)) (dCons (dC (.int 29)) (dNil))))) (dNil))))
theorem lok_5 (T : Txt g mg) (B : Tbs g mg base) : LamOk lam_5 ∧ ∀ (A : Around) (outer : List PySem.Env) (s : Shared) (H : Hp) (E : XK) (f c : Addr), Ok (lamCx0 P w g.K mg base lam_5 A outer s H E f c) g (WB E) 5 → PD (lamCx0 P w g.K mg base lam_5 A outer s H E f c) g (WB E) lam_5.body (fun _ st => tab 5 st) := by
  have F_check_date := (fn_check_date (P := P) (w := w) (base := base) T B)
  refine ⟨lamOk_by (by decide +kernel) (by intros; rfl), fun A outer s H E f c O => ?_⟩
  exact (pd_call O F_check_date (by decide) (pa_cons (pd_tup (pa_cons (pd_int) (pa_cons (pd_int) (pa_cons (pd_int) (pa_nil))))) (pa_nil)) (len_cons_ (fun _ _ _ _ h => len_nil_ h)) : PD _ g (WB E) lam_5.body (dCall f_check_date (dCons (dTup (dCons (dC (.int 2023)) (dCons (dC (.int 4)) (dCons (dC (.int 31)) (dNil))))) (dNil))))
theorem lok_6 (T : Txt g mg) (B : Tbs g mg base) : LamOk lam_6 ∧ ∀ (A : Around) (outer : List PySem.Env) (s : Shared) (H : Hp) (E : XK) (f c : Addr), Ok (lamCx0 P w g.K mg base lam_6 A outer s H E f c) g (WB E) 5 → PD (lamCx0 P w g.K mg base lam_6 A outer s H E f c) g (WB E) lam_6.body (fun _ st => tab 6 st) := by
  have F_check_date := (fn_check_date (P := P) (w := w) (base := base) T B)
  refine ⟨lamOk_by (by decide +kernel) (by intros; rfl), fun A outer s H E f c O => ?_⟩
  exact (pd_call O F_check_date (by decide) (pa_cons (pd_tup (pa_cons (pd_int) (pa_cons (pd_int) (pa_cons (pd_int) (pa_nil))))) (pa_nil)) (len_cons_ (fun _ _ _ _ h => len_nil_ h)) : PD _ g (WB E) lam_6.body (dCall f_check_date (dCons (dTup (dCons (dC (.int 2023)) (dCons (dC (.int 1)) (dCons (dC (.int 0)) (dNil))))) (dNil))))
theorem lok_7 (T : Txt g mg) (B : Tbs g mg base) : LamOk lam_7 ∧ ∀ (A : Around) (outer : List PySem.Env) (s : Shared) (H : Hp) (E : XK) (f c : Addr), Ok (lamCx0 P w g.K mg base lam_7 A outer s H E f c) g (WB E) 5 → PD (lamCx0 P w g.K mg base lam_7 A outer s H E f c) g (WB E) lam_7.body (fun _ st => tab 7 st) := by
  have F_day_number := (fn_day_number (P := P) (w := w) (base := base) T B)
  refine ⟨lamOk_by (by decide +kernel) (by intros; rfl), fun A outer s H E f c O => ?_⟩
  exact (pd_call O F_day_number (by decide) (pa_cons (pd_tup (pa_cons (pd_int) (pa_cons (pd_int) (pa_cons (pd_int) (pa_nil))))) (pa_nil)) (len_cons_ (fun _ _ _ _ h => len_nil_ h)) : PD _ g (WB E) lam_7.body (dCall f_day_number (dCons (dTup (dCons (dC (.int 0)) (dCons (dC (.int 1)) (dCons (dC (.int 1)) (dNil))))) (dNil))))
theorem lok_8 (T : Txt g mg) (B : Tbs g mg base) : LamOk lam_8 ∧ ∀ (A : Around) (outer : List PySem.Env) (s : Shared) (H : Hp) (E : XK) (f c : Addr), Ok (lamCx0 P w g.K mg base lam_8 A outer s H E f c) g (WB E) 5 → PD (lamCx0 P w g.K mg base lam_8 A outer s H E f c) g (WB E) lam_8.body (fun _ st => tab 8 st) := by
  have F_date_of := (fn_date_of (P := P) (w := w) (base := base) T B)
  refine ⟨lamOk_by (by decide +kernel) (by intros; rfl), fun A outer s H E f c O => ?_⟩
  exact (pd_call O F_date_of (by decide) (pa_cons (pd_int) (pa_nil)) (len_cons_ (fun _ _ _ _ h => len_nil_ h)) : PD _ g (WB E) lam_8.body (dCall f_date_of (dCons (dC (.int 0)) (dNil))))
theorem lok_9 (T : Txt g mg) (B : Tbs g mg base) : LamOk lam_9 ∧ ∀ (A : Around) (outer : List PySem.Env) (s : Shared) (H : Hp) (E : XK) (f c : Addr), Ok (lamCx0 P w g.K mg base lam_9 A outer s H E f c) g (WB E) 5 → PD (lamCx0 P w g.K mg base lam_9 A outer s H E f c) g (WB E) lam_9.body (fun _ st => tab 9 st) := by
  have F_date_of := (fn_date_of (P := P) (w := w) (base := base) T B)
  refine ⟨lamOk_by (by decide +kernel) (by intros; rfl), fun A outer s H E f c O => ?_⟩
  exact (pd_call O F_date_of (by decide) (pa_cons (pd_int) (pa_nil)) (len_cons_ (fun _ _ _ _ h => len_nil_ h)) : PD _ g (WB E) lam_9.body (dCall f_date_of (dCons (dC (.int 3652060)) (dNil))))
theorem lok_10 (T : Txt g mg) (B : Tbs g mg base) : LamOk lam_10 ∧ ∀ (A : Around) (outer : List PySem.Env) (s : Shared) (H : Hp) (E : XK) (f c : Addr), Ok (lamCx0 P w g.K mg base lam_10 A outer s H E f c) g (WB E) 5 → PD (lamCx0 P w g.K mg base lam_10 A outer s H E f c) g (WB E) lam_10.body (fun _ st => tab 10 st) := by
  have F_weekday_of := (fn_weekday_of (P := P) (w := w) (base := base) T B)
  refine ⟨lamOk_by (by decide +kernel) (by intros; rfl), fun A outer s H E f c O => ?_⟩
  exact (pd_call O F_weekday_of (by decide) (pa_cons (pd_int) (pa_nil)) (len_cons_ (fun _ _ _ _ h => len_nil_ h)) : PD _ g (WB E) lam_10.body (dCall f_weekday_of (dCons (dC (.int 0)) (dNil))))
theorem lok_11 (T : Txt g mg) (B : Tbs g mg base) : LamOk lam_11 ∧ ∀ (A : Around) (outer : List PySem.Env) (s : Shared) (H : Hp) (E : XK) (f c : Addr), Ok (lamCx0 P w g.K mg base lam_11 A outer s H E f c) g (WB E) 5 → PD (lamCx0 P w g.K mg base lam_11 A outer s H E f c) g (WB E) lam_11.body (fun _ st => tab 11 st) := by
  have F_day_of_year := (fn_day_of_year (P := P) (w := w) (base := base) T B)
  refine ⟨lamOk_by (by decide +kernel) (by intros; rfl), fun A outer s H E f c O => ?_⟩
  exact (pd_call O F_day_of_year (by decide) (pa_cons (pd_tup (pa_cons (pd_int) (pa_cons (pd_int) (pa_cons (pd_int) (pa_nil))))) (pa_nil)) (len_cons_ (fun _ _ _ _ h => len_nil_ h)) : PD _ g (WB E) lam_11.body (dCall f_day_of_year (dCons (dTup (dCons (dC (.int 2023)) (dCons (dC (.int 2)) (dCons (dC (.int 29)) (dNil))))) (dNil))))
theorem lok_12 (T : Txt g mg) (B : Tbs g mg base) : LamOk lam_12 ∧ ∀ (A : Around) (outer : List PySem.Env) (s : Shared) (H : Hp) (E : XK) (f c : Addr), Ok (lamCx0 P w g.K mg base lam_12 A outer s H E f c) g (WB E) 5 → PD (lamCx0 P w g.K mg base lam_12 A outer s H E f c) g (WB E) lam_12.body (fun _ st => tab 12 st) := by
  have F_by_day_of_year := (fn_by_day_of_year (P := P) (w := w) (base := base) T B)
  refine ⟨lamOk_by (by decide +kernel) (by intros; rfl), fun A outer s H E f c O => ?_⟩
  exact (pd_call O F_by_day_of_year (by decide) (pa_cons (pd_int) (pa_cons (pd_int) (pa_nil))) (len_cons_ (len_cons_ (fun _ _ _ _ h => len_nil_ h))) : PD _ g (WB E) lam_12.body (dCall f_by_day_of_year (dCons (dC (.int 2023)) (dCons (dC (.int 366)) (dNil)))))
theorem lok_13 (T : Txt g mg) (B : Tbs g mg base) : LamOk lam_13 ∧ ∀ (A : Around) (outer : List PySem.Env) (s : Shared) (H : Hp) (E : XK) (f c : Addr), Ok (lamCx0 P w g.K mg base lam_13 A outer s H E f c) g (WB E) 5 → PD (lamCx0 P w g.K mg base lam_13 A outer s H E f c) g (WB E) lam_13.body (fun _ st => tab 13 st) := by
  have F_by_day_of_year := (fn_by_day_of_year (P := P) (w := w) (base := base) T B)
  refine ⟨lamOk_by (by decide +kernel) (by intros; rfl), fun A outer s H E f c O => ?_⟩
  exact (pd_call O F_by_day_of_year (by decide) (pa_cons (pd_int) (pa_cons (pd_int) (pa_nil))) (len_cons_ (len_cons_ (fun _ _ _ _ h => len_nil_ h))) : PD _ g (WB E) lam_13.body (dCall f_by_day_of_year (dCons (dC (.int 2023)) (dCons (dC (.int 0)) (dNil)))))
theorem lok_14 (T : Txt g mg) (B : Tbs g mg base) : LamOk lam_14 ∧ ∀ (A : Around) (outer : List PySem.Env) (s : Shared) (H : Hp) (E : XK) (f c : Addr), Ok (lamCx0 P w g.K mg base lam_14 A outer s H E f c) g (WB E) 5 → PD (lamCx0 P w g.K mg base lam_14 A outer s H E f c) g (WB E) lam_14.body (fun _ st => tab 14 st) := by
  have F_days_from := (fn_days_from (P := P) (w := w) (base := base) T B)
  refine ⟨lamOk_by (by decide +kernel) (by intros; rfl), fun A outer s H E f c O => ?_⟩
  exact (pd_call O F_days_from (by decide) (pa_cons (pd_tup (pa_cons (pd_int) (pa_cons (pd_int) (pa_cons (pd_int) (pa_nil))))) (pa_cons (pd_tup (pa_cons (pd_int) (pa_cons (pd_int) (pa_cons (pd_int) (pa_nil))))) (pa_nil))) (len_cons_ (len_cons_ (fun _ _ _ _ h => len_nil_ h))) : PD _ g (WB E) lam_14.body (dCall f_days_from (dCons (dTup (dCons (dC (.int 1)) (dCons (dC (.int 1)) (dCons (dC (.int 1)) (dNil))))) (dCons (dTup (dCons (dC (.int 0)) (dCons (dC (.int 1)) (dCons (dC (.int 1)) (dNil))))) (dNil)))))
theorem lok_15 (T : Txt g mg) (B : Tbs g mg base) : LamOk lam_15 ∧ ∀ (A : Around) (outer : List PySem.Env) (s : Shared) (H : Hp) (E : XK) (f c : Addr), Ok (lamCx0 P w g.K mg base lam_15 A outer s H E f c) g (WB E) 5 → PD (lamCx0 P w g.K mg base lam_15 A outer s H E f c) g (WB E) lam_15.body (fun _ st => tab 15 st) := by
  have F_later := (fn_later (P := P) (w := w) (base := base) T B)
  refine ⟨lamOk_by (by decide +kernel) (by intros; rfl), fun A outer s H E f c O => ?_⟩
  exact (pd_call O F_later (by decide) (pa_cons (pd_tup (pa_cons (pd_int) (pa_cons (pd_int) (pa_cons (pd_int) (pa_nil))))) (pa_cons (pd_neg (pd_int)) (pa_nil))) (len_cons_ (len_cons_ (fun _ _ _ _ h => len_nil_ h))) : PD _ g (WB E) lam_15.body (dCall f_later (dCons (dTup (dCons (dC (.int 1)) (dCons (dC (.int 1)) (dCons (dC (.int 1)) (dNil))))) (dCons (dNeg (dC (.int 1))) (dNil)))))
theorem lok_16 (T : Txt g mg) (B : Tbs g mg base) : LamOk lam_16 ∧ ∀ (A : Around) (outer : List PySem.Env) (s : Shared) (H : Hp) (E : XK) (f c : Addr), Ok (lamCx0 P w g.K mg base lam_16 A outer s H E f c) g (WB E) 5 → PD (lamCx0 P w g.K mg base lam_16 A outer s H E f c) g (WB E) lam_16.body (fun _ st => tab 16 st) := by
  have F_later := (fn_later (P := P) (w := w) (base := base) T B)
  refine ⟨lamOk_by (by decide +kernel) (by intros; rfl), fun A outer s H E f c O => ?_⟩
  exact (pd_call O F_later (by decide) (pa_cons (pd_tup (pa_cons (pd_int) (pa_cons (pd_int) (pa_cons (pd_int) (pa_nil))))) (pa_cons (pd_int) (pa_nil))) (len_cons_ (len_cons_ (fun _ _ _ _ h => len_nil_ h))) : PD _ g (WB E) lam_16.body (dCall f_later (dCons (dTup (dCons (dC (.int 9999)) (dCons (dC (.int 12)) (dCons (dC (.int 31)) (dNil))))) (dCons (dC (.int 1)) (dNil)))))
theorem lok_17 (T : Txt g mg) (B : Tbs g mg base) : LamOk lam_17 ∧ ∀ (A : Around) (outer : List PySem.Env) (s : Shared) (H : Hp) (E : XK) (f c : Addr), Ok (lamCx0 P w g.K mg base lam_17 A outer s H E f c) g (WB E) 5 → PD (lamCx0 P w g.K mg base lam_17 A outer s H E f c) g (WB E) lam_17.body (fun _ st => tab 17 st) := by
  have F_old_number := (fn_old_number (P := P) (w := w) (base := base) T B)
  refine ⟨lamOk_by (by decide +kernel) (by intros; rfl), fun A outer s H E f c O => ?_⟩
  exact (pd_call O F_old_number (by decide) (pa_cons (pd_tup (pa_cons (pd_int) (pa_cons (pd_int) (pa_cons (pd_int) (pa_nil))))) (pa_nil)) (len_cons_ (fun _ _ _ _ h => len_nil_ h)) : PD _ g (WB E) lam_17.body (dCall f_old_number (dCons (dTup (dCons (dC (.int 2023)) (dCons (dC (.int 2)) (dCons (dC (.int 29)) (dNil))))) (dNil))))
theorem lok_18 (T : Txt g mg) (B : Tbs g mg base) : LamOk lam_18 ∧ ∀ (A : Around) (outer : List PySem.Env) (s : Shared) (H : Hp) (E : XK) (f c : Addr), Ok (lamCx0 P w g.K mg base lam_18 A outer s H E f c) g (WB E) 5 → PD (lamCx0 P w g.K mg base lam_18 A outer s H E f c) g (WB E) lam_18.body (fun _ st => tab 18 st) := by
  have F_old_number := (fn_old_number (P := P) (w := w) (base := base) T B)
  refine ⟨lamOk_by (by decide +kernel) (by intros; rfl), fun A outer s H E f c O => ?_⟩
  exact (pd_call O F_old_number (by decide) (pa_cons (pd_tup (pa_cons (pd_int) (pa_cons (pd_int) (pa_cons (pd_int) (pa_nil))))) (pa_nil)) (len_cons_ (fun _ _ _ _ h => len_nil_ h)) : PD _ g (WB E) lam_18.body (dCall f_old_number (dCons (dTup (dCons (dC (.int 0)) (dCons (dC (.int 1)) (dCons (dC (.int 1)) (dNil))))) (dNil))))
theorem lok_19 (T : Txt g mg) (B : Tbs g mg base) : LamOk lam_19 ∧ ∀ (A : Around) (outer : List PySem.Env) (s : Shared) (H : Hp) (E : XK) (f c : Addr), Ok (lamCx0 P w g.K mg base lam_19 A outer s H E f c) g (WB E) 5 → PD (lamCx0 P w g.K mg base lam_19 A outer s H E f c) g (WB E) lam_19.body (fun _ st => tab 19 st) := by
  have F_old_number := (fn_old_number (P := P) (w := w) (base := base) T B)
  refine ⟨lamOk_by (by decide +kernel) (by intros; rfl), fun A outer s H E f c O => ?_⟩
  exact (pd_call O F_old_number (by decide) (pa_cons (pd_tup (pa_cons (pd_int) (pa_cons (pd_int) (pa_cons (pd_int) (pa_nil))))) (pa_nil)) (len_cons_ (fun _ _ _ _ h => len_nil_ h)) : PD _ g (WB E) lam_19.body (dCall f_old_number (dCons (dTup (dCons (dC (.int 2023)) (dCons (dC (.int 13)) (dCons (dC (.int 1)) (dNil))))) (dNil))))
theorem lok_20 (T : Txt g mg) (B : Tbs g mg base) : LamOk lam_20 ∧ ∀ (A : Around) (outer : List PySem.Env) (s : Shared) (H : Hp) (E : XK) (f c : Addr), Ok (lamCx0 P w g.K mg base lam_20 A outer s H E f c) g (WB E) 5 → PD (lamCx0 P w g.K mg base lam_20 A outer s H E f c) g (WB E) lam_20.body (fun _ st => tab 20 st) := by
  have F_old_number := (fn_old_number (P := P) (w := w) (base := base) T B)
  refine ⟨lamOk_by (by decide +kernel) (by intros; rfl), fun A outer s H E f c O => ?_⟩
  exact (pd_call O F_old_number (by decide) (pa_cons (pd_tup (pa_cons (pd_int) (pa_cons (pd_int) (pa_cons (pd_int) (pa_nil))))) (pa_nil)) (len_cons_ (fun _ _ _ _ h => len_nil_ h)) : PD _ g (WB E) lam_20.body (dCall f_old_number (dCons (dTup (dCons (dC (.int 1)) (dCons (dC (.int 1)) (dCons (dC (.int 2)) (dNil))))) (dNil))))
theorem lok_21 (T : Txt g mg) (B : Tbs g mg base) : LamOk lam_21 ∧ ∀ (A : Around) (outer : List PySem.Env) (s : Shared) (H : Hp) (E : XK) (f c : Addr), Ok (lamCx0 P w g.K mg base lam_21 A outer s H E f c) g (WB E) 5 → PD (lamCx0 P w g.K mg base lam_21 A outer s H E f c) g (WB E) lam_21.body (fun _ st => tab 21 st) := by
  have F_old_date := (fn_old_date (P := P) (w := w) (base := base) T B)
  refine ⟨lamOk_by (by decide +kernel) (by intros; rfl), fun A outer s H E f c O => ?_⟩
  exact (pd_call O F_old_date (by decide) (pa_cons (pd_int) (pa_nil)) (len_cons_ (fun _ _ _ _ h => len_nil_ h)) : PD _ g (WB E) lam_21.body (dCall f_old_date (dCons (dC (.int 0)) (dNil))))
theorem lok_22 (T : Txt g mg) (B : Tbs g mg base) : LamOk lam_22 ∧ ∀ (A : Around) (outer : List PySem.Env) (s : Shared) (H : Hp) (E : XK) (f c : Addr), Ok (lamCx0 P w g.K mg base lam_22 A outer s H E f c) g (WB E) 5 → PD (lamCx0 P w g.K mg base lam_22 A outer s H E f c) g (WB E) lam_22.body (fun _ st => tab 22 st) := by
  have F_apart_calendars := (fn_apart_calendars (P := P) (w := w) (base := base) T B)
  refine ⟨lamOk_by (by decide +kernel) (by intros; rfl), fun A outer s H E f c O => ?_⟩
  exact (pd_call O F_apart_calendars (by decide) (pa_cons (pd_tup (pa_cons (pd_int) (pa_cons (pd_int) (pa_cons (pd_int) (pa_nil))))) (pa_nil)) (len_cons_ (fun _ _ _ _ h => len_nil_ h)) : PD _ g (WB E) lam_22.body (dCall f_apart_calendars (dCons (dTup (dCons (dC (.int 1)) (dCons (dC (.int 1)) (dCons (dC (.int 1)) (dNil))))) (dNil))))
theorem lok_23 (T : Txt g mg) (B : Tbs g mg base) : LamOk lam_23 ∧ ∀ (A : Around) (outer : List PySem.Env) (s : Shared) (H : Hp) (E : XK) (f c : Addr), Ok (lamCx0 P w g.K mg base lam_23 A outer s H E f c) g (WB E) 5 → PD (lamCx0 P w g.K mg base lam_23 A outer s H E f c) g (WB E) lam_23.body (fun _ st => tab 23 st) := by
  have F_is_ahead := (fn_is_ahead (P := P) (w := w) (base := base) T B)
  refine ⟨lamOk_by (by decide +kernel) (by intros; rfl), fun A outer s H E f c O => ?_⟩
  exact (pd_call O F_is_ahead (by decide) (pa_cons (pd_tup (pa_cons (pd_int) (pa_cons (pd_int) (pa_cons (pd_int) (pa_nil))))) (pa_cons (pd_tup (pa_cons (pd_int) (pa_cons (pd_int) (pa_cons (pd_int) (pa_nil))))) (pa_nil))) (len_cons_ (len_cons_ (fun _ _ _ _ h => len_nil_ h))) : PD _ g (WB E) lam_23.body (dCall f_is_ahead (dCons (dTup (dCons (dC (.int 1)) (dCons (dC (.int 1)) (dCons (dC (.int 1)) (dNil))))) (dCons (dTup (dCons (dC (.int 1)) (dCons (dC (.int 13)) (dCons (dC (.int 1)) (dNil))))) (dNil)))))
theorem lams_ok (T : Txt g mg) (B : Tbs g mg base) : LamsOk P w mg base g 5 tab := by
  intro n l h
  by_cases h0 : n = 0
  · subst h0
    rw [T.l_0] at h
    cases h
    exact lok_0 T B
  by_cases h1 : n = 1
  · subst h1
    rw [T.l_1] at h
    cases h
    exact lok_1 T B
  by_cases h2 : n = 2
  · subst h2
    rw [T.l_2] at h
    cases h
    exact lok_2 T B
  by_cases h3 : n = 3
  · subst h3
    rw [T.l_3] at h
    cases h
    exact lok_3 T B
  by_cases h4 : n = 4
  · subst h4
    rw [T.l_4] at h
    cases h
    exact lok_4 T B
  by_cases h5 : n = 5
  · subst h5
    rw [T.l_5] at h
    cases h
    exact lok_5 T B
  by_cases h6 : n = 6
  · subst h6
    rw [T.l_6] at h
    cases h
    exact lok_6 T B
  by_cases h7 : n = 7
  · subst h7
    rw [T.l_7] at h
    cases h
    exact lok_7 T B
  by_cases h8 : n = 8
  · subst h8
    rw [T.l_8] at h
    cases h
    exact lok_8 T B
  by_cases h9 : n = 9
  · subst h9
    rw [T.l_9] at h
    cases h
    exact lok_9 T B
  by_cases h10 : n = 10
  · subst h10
    rw [T.l_10] at h
    cases h
    exact lok_10 T B
  by_cases h11 : n = 11
  · subst h11
    rw [T.l_11] at h
    cases h
    exact lok_11 T B
  by_cases h12 : n = 12
  · subst h12
    rw [T.l_12] at h
    cases h
    exact lok_12 T B
  by_cases h13 : n = 13
  · subst h13
    rw [T.l_13] at h
    cases h
    exact lok_13 T B
  by_cases h14 : n = 14
  · subst h14
    rw [T.l_14] at h
    cases h
    exact lok_14 T B
  by_cases h15 : n = 15
  · subst h15
    rw [T.l_15] at h
    cases h
    exact lok_15 T B
  by_cases h16 : n = 16
  · subst h16
    rw [T.l_16] at h
    cases h
    exact lok_16 T B
  by_cases h17 : n = 17
  · subst h17
    rw [T.l_17] at h
    cases h
    exact lok_17 T B
  by_cases h18 : n = 18
  · subst h18
    rw [T.l_18] at h
    cases h
    exact lok_18 T B
  by_cases h19 : n = 19
  · subst h19
    rw [T.l_19] at h
    cases h
    exact lok_19 T B
  by_cases h20 : n = 20
  · subst h20
    rw [T.l_20] at h
    cases h
    exact lok_20 T B
  by_cases h21 : n = 21
  · subst h21
    rw [T.l_21] at h
    cases h
    exact lok_21 T B
  by_cases h22 : n = 22
  · subst h22
    rw [T.l_22] at h
    cases h
    exact lok_22 T B
  by_cases h23 : n = 23
  · subst h23
    rw [T.l_23] at h
    cases h
    exact lok_23 T B
  rw [T.lam_no n (by omega)] at h
  cases h
/-! _law_told -/
def b__law_told : DS := dTry [("DayError", true)] (dRet (dCallLam tab 0)) (dRet (dC (.str "DayError")))
def f__law_told : List D → Store → R D := runB 1 b__law_told
theorem fn__law_told (T : Txt g mg) (B : Tbs g mg base) : FnD P w mg base g 7 "_law_told" 1 f__law_told := by
  have FL := (lams_ok (P := P) (w := w) (base := base) T B)
  refine (fn_D T.d__law_told sc__law_told rfl fun fa cdv A outer s H E O => ?_)
  exact ss_one (s_try (tb := [("DayError", true)]) O T.e_DayError T.catch_DayError rfl rfl (fun W pn xe O => ss_one (s_ret (pd_callLam 0 O FL (by decide)))) (fun a oe pn => ss_one (s_ret (pd_str))))
/-! _law_plain -/
def y__law_plain_1 : DE := dC (.int 1)
def b__law_plain : DS := dSeq (dAsg (dLst false (dCons (dLam 0) (dCons (dLam 1) (dCons (dLam 2) (dCons (dLam 3) (dCons (dLam 4) (dCons (dLam 5) (dCons (dLam 6) (dCons (dLam 7) (dCons (dLam 8) (dCons (dLam 9) (dCons (dLam 10) (dCons (dLam 11) (dCons (dLam 12) (dCons (dLam 13) (dCons (dLam 14) (dCons (dLam 15) (dCons (dLam 16) (dCons (dLam 17) (dCons (dLam 18) (dCons (dLam 19) (dCons (dLam 20) (dCons (dLam 21) (dCons (dLam 22) (dCons (dLam 23) (dNil)))))))))))))))))))))))))) (dgName 0)) (dSeq (dIfS (dB (dBin aNe (dLc false (dIt (dVar 0)) (dgName 1) (dB (dBin aNe (dCall f__law_told (dCons (dVar 1) (dNil))) (dC (.str "DayError")))) y__law_plain_1 [1]) (dLst false (dNil)))) (dRet (dC (.bl false))) (dNext)) (dSeq (dIfS (dB (dBin aNe (dTup (dCons (dC c_MONTH_LENGTHS) (dCons (dC c_MOST_YEAR) (dNil)))) (dTup (dCons (dTup (dCons (dC (.int 31)) (dCons (dC (.int 28)) (dCons (dC (.int 31)) (dCons (dC (.int 30)) (dCons (dC (.int 31)) (dCons (dC (.int 30)) (dCons (dC (.int 31)) (dCons (dC (.int 31)) (dCons (dC (.int 30)) (dCons (dC (.int 31)) (dCons (dC (.int 30)) (dCons (dC (.int 31)) (dNil)))))))))))))) (dCons (dC (.int 9999)) (dNil)))))) (dRet (dC (.bl false))) (dNext)) (dSeq (dIfS (dB (dBin aNe (dC c_WEEKDAYS) (dTup (dCons (dC (.str "mon")) (dCons (dC (.str "tue")) (dCons (dC (.str "wed")) (dCons (dC (.str "thu")) (dCons (dC (.str "fri")) (dCons (dC (.str "sat")) (dCons (dC (.str "sun")) (dNil))))))))))) (dRet (dC (.bl false))) (dNext)) (dSeq (dIfS (dNot (dAnd (dB (dBin aEq (dCall f_day_number (dCons (dTup (dCons (dC (.int 1970)) (dCons (dC (.int 1)) (dCons (dC (.int 1)) (dNil))))) (dNil))) (dC (.int 719163)))) (dB (dBin aEq (dCall f_date_of (dCons (dC (.int 146097)) (dNil))) (dTup (dCons (dC (.int 400)) (dCons (dC (.int 12)) (dCons (dC (.int 31)) (dNil))))))))) (dRet (dC (.bl false))) (dNext)) (dSeq (dIfS (dNot (dAnd (dB (dBin aEq (dCall f_weekday_of (dCons (dCall f_day_number (dCons (dTup (dCons (dC (.int 2026)) (dCons (dC (.int 11)) (dCons (dC (.int 19)) (dNil))))) (dNil))) (dNil))) (dC (.int 3)))) (dB (dBin aEq (dCall f_day_of_year (dCons (dTup (dCons (dC (.int 2026)) (dCons (dC (.int 11)) (dCons (dC (.int 19)) (dNil))))) (dNil))) (dC (.int 323)))))) (dRet (dC (.bl false))) (dNext)) (dSeq (dIfS (dB (dBin aNe (dBin (aAdd false) (dCall f_old_number (dCons (dTup (dCons (dC (.int 1582)) (dCons (dC (.int 10)) (dCons (dC (.int 4)) (dNil))))) (dNil))) (dC (.int 1))) (dCall f_day_number (dCons (dTup (dCons (dC (.int 1582)) (dCons (dC (.int 10)) (dCons (dC (.int 15)) (dNil))))) (dNil))))) (dRet (dC (.bl false))) (dNext)) (dSeq (dIfS (dNot (dAnd (dB (dBin aEq (dCall f_old_date (dCons (dCall f_day_number (dCons (dTup (dCons (dC (.int 2026)) (dCons (dC (.int 11)) (dCons (dC (.int 19)) (dNil))))) (dNil))) (dNil))) (dTup (dCons (dC (.int 2026)) (dCons (dC (.int 11)) (dCons (dC (.int 6)) (dNil))))))) (dB (dBin aEq (dCall f_apart_calendars (dCons (dTup (dCons (dC (.int 2026)) (dCons (dC (.int 11)) (dCons (dC (.int 19)) (dNil))))) (dNil))) (dC (.int 13)))))) (dRet (dC (.bl false))) (dNext)) (dSeq (dIfS (dNot (dAnd (dB (dBin aEq (dCall f_old_date (dCons (dC (.int 1)) (dNil))) (dTup (dCons (dC (.int 1)) (dCons (dC (.int 1)) (dCons (dC (.int 3)) (dNil))))))) (dAnd (dB (dBin aEq (dCall f_later (dCons (dTup (dCons (dC (.int 2026)) (dCons (dC (.int 11)) (dCons (dC (.int 19)) (dNil))))) (dCons (dC (.int 45)) (dNil)))) (dTup (dCons (dC (.int 2027)) (dCons (dC (.int 1)) (dCons (dC (.int 3)) (dNil))))))) (dNot (dTru (dCall f_is_leap (dCons (dC (.int 1900)) (dNil)))))))) (dRet (dC (.bl false))) (dNext)) (dSeq (dIfS (dNot (dAnd (dTru (dCall f_is_leap (dCons (dC (.int 2000)) (dNil)))) (dB (dBin aEq (dCall f_date_of (dCons (dC (.int 3652059)) (dNil))) (dTup (dCons (dC (.int 9999)) (dCons (dC (.int 12)) (dCons (dC (.int 31)) (dNil))))))))) (dRet (dC (.bl false))) (dNext)) (dRet (dBin aEq (dCall f_old_number (dCons (dTup (dCons (dC (.int 1900)) (dCons (dC (.int 2)) (dCons (dC (.int 29)) (dNil))))) (dNil))) (dCall f_day_number (dCons (dTup (dCons (dC (.int 1900)) (dCons (dC (.int 3)) (dCons (dC (.int 13)) (dNil))))) (dNil))))))))))))))
def f__law_plain : List D → Store → R D := runB 2 b__law_plain
theorem fn__law_plain (T : Txt g mg) (B : Tbs g mg base) : FnD P w mg base g 8 "_law_plain" 0 f__law_plain := by
  have F__law_told := (fn__law_told (P := P) (w := w) (base := base) T B)
  have F_apart_calendars := (fn_apart_calendars (P := P) (w := w) (base := base) T B)
  have F_date_of := (fn_date_of (P := P) (w := w) (base := base) T B)
  have F_day_number := (fn_day_number (P := P) (w := w) (base := base) T B)
  have F_day_of_year := (fn_day_of_year (P := P) (w := w) (base := base) T B)
  have F_is_leap := (fn_is_leap (P := P) (w := w) (base := base) T B)
  have F_later := (fn_later (P := P) (w := w) (base := base) T B)
  have F_old_date := (fn_old_date (P := P) (w := w) (base := base) T B)
  have F_old_number := (fn_old_number (P := P) (w := w) (base := base) T B)
  have F_weekday_of := (fn_weekday_of (P := P) (w := w) (base := base) T B)
  refine (fn_L T.d__law_plain B.t__law_plain T.mT__law_plain T.hu__law_plain sc__law_plain rfl fun fa cdv A outer s H E O M => ?_)
  exact ss_cons (s_asg (pd_lst false (pa_cons (pd_lam 0 (l := lam_0) M T.l_0) (pa_cons (pd_lam 1 (l := lam_1) M T.l_1) (pa_cons (pd_lam 2 (l := lam_2) M T.l_2) (pa_cons (pd_lam 3 (l := lam_3) M T.l_3) (pa_cons (pd_lam 4 (l := lam_4) M T.l_4) (pa_cons (pd_lam 5 (l := lam_5) M T.l_5) (pa_cons (pd_lam 6 (l := lam_6) M T.l_6) (pa_cons (pd_lam 7 (l := lam_7) M T.l_7) (pa_cons (pd_lam 8 (l := lam_8) M T.l_8) (pa_cons (pd_lam 9 (l := lam_9) M T.l_9) (pa_cons (pd_lam 10 (l := lam_10) M T.l_10) (pa_cons (pd_lam 11 (l := lam_11) M T.l_11) (pa_cons (pd_lam 12 (l := lam_12) M T.l_12) (pa_cons (pd_lam 13 (l := lam_13) M T.l_13) (pa_cons (pd_lam 14 (l := lam_14) M T.l_14) (pa_cons (pd_lam 15 (l := lam_15) M T.l_15) (pa_cons (pd_lam 16 (l := lam_16) M T.l_16) (pa_cons (pd_lam 17 (l := lam_17) M T.l_17) (pa_cons (pd_lam 18 (l := lam_18) M T.l_18) (pa_cons (pd_lam 19 (l := lam_19) M T.l_19) (pa_cons (pd_lam 20 (l := lam_20) M T.l_20) (pa_cons (pd_lam 21 (l := lam_21) M T.l_21) (pa_cons (pd_lam 22 (l := lam_22) M T.l_22) (pa_cons (pd_lam 23 (l := lam_23) M T.l_23) (pa_nil)))))))))))))))))))))))))) (g_name 0 O)) (ss_cons (s_if (pt_cmp (oNe O) (pd_lc false (own := [(("f" : Str), 1)]) O (i_seq O (pd_var 0)) (blkOk_by (N := ["bad", "f"]) (sc := defScope s__law_plain) (by decide +kernel)) (fun _ _ _ _ _ => g_name 1 (O.blk _ _ _ _ _)) (fun _ _ _ _ _ => ts_one (pt_cmp (oNe (O.blk _ _ _ _ _)) (pd_call (O.blk _ _ _ _ _) F__law_told (by decide) (pa_cons (pd_var 1) (pa_nil)) (len_cons_ (fun _ _ _ _ h => len_nil_ h))) (pd_str))) (fun _ _ _ _ _ => pd_int)) (pd_lst false (pa_nil))) (ss_one (s_ret (pd_bl))) (ss_nil)) (ss_cons (s_if (pt_cmp (oNe O) (pd_tup (pa_cons (pd_glob T.g_MONTH_LENGTHS) (pa_cons (pd_glob T.g_MOST_YEAR) (pa_nil)))) (pd_tup (pa_cons (pd_tup (pa_cons (pd_int) (pa_cons (pd_int) (pa_cons (pd_int) (pa_cons (pd_int) (pa_cons (pd_int) (pa_cons (pd_int) (pa_cons (pd_int) (pa_cons (pd_int) (pa_cons (pd_int) (pa_cons (pd_int) (pa_cons (pd_int) (pa_cons (pd_int) (pa_nil)))))))))))))) (pa_cons (pd_int) (pa_nil))))) (ss_one (s_ret (pd_bl))) (ss_nil)) (ss_cons (s_if (pt_cmp (oNe O) (pd_glob T.g_WEEKDAYS) (pd_tup (pa_cons (pd_str) (pa_cons (pd_str) (pa_cons (pd_str) (pa_cons (pd_str) (pa_cons (pd_str) (pa_cons (pd_str) (pa_cons (pd_str) (pa_nil)))))))))) (ss_one (s_ret (pd_bl))) (ss_nil)) (ss_cons (s_if (pt_not (pt_w (pw_and (pt_cmp (oEq O) (pd_call O F_day_number (by decide) (pa_cons (pd_tup (pa_cons (pd_int) (pa_cons (pd_int) (pa_cons (pd_int) (pa_nil))))) (pa_nil)) (len_cons_ (fun _ _ _ _ h => len_nil_ h))) (pd_int)) (pw_and1 (pt_cmp (oEq O) (pd_call O F_date_of (by decide) (pa_cons (pd_int) (pa_nil)) (len_cons_ (fun _ _ _ _ h => len_nil_ h))) (pd_tup (pa_cons (pd_int) (pa_cons (pd_int) (pa_cons (pd_int) (pa_nil)))))))))) (ss_one (s_ret (pd_bl))) (ss_nil)) (ss_cons (s_if (pt_not (pt_w (pw_and (pt_cmp (oEq O) (pd_call O F_weekday_of (by decide) (pa_cons (pd_call O F_day_number (by decide) (pa_cons (pd_tup (pa_cons (pd_int) (pa_cons (pd_int) (pa_cons (pd_int) (pa_nil))))) (pa_nil)) (len_cons_ (fun _ _ _ _ h => len_nil_ h))) (pa_nil)) (len_cons_ (fun _ _ _ _ h => len_nil_ h))) (pd_int)) (pw_and1 (pt_cmp (oEq O) (pd_call O F_day_of_year (by decide) (pa_cons (pd_tup (pa_cons (pd_int) (pa_cons (pd_int) (pa_cons (pd_int) (pa_nil))))) (pa_nil)) (len_cons_ (fun _ _ _ _ h => len_nil_ h))) (pd_int)))))) (ss_one (s_ret (pd_bl))) (ss_nil)) (ss_cons (s_if (pt_cmp (oNe O) (pd_bin (oAdd O) (pd_call O F_old_number (by decide) (pa_cons (pd_tup (pa_cons (pd_int) (pa_cons (pd_int) (pa_cons (pd_int) (pa_nil))))) (pa_nil)) (len_cons_ (fun _ _ _ _ h => len_nil_ h))) (pd_int)) (pd_call O F_day_number (by decide) (pa_cons (pd_tup (pa_cons (pd_int) (pa_cons (pd_int) (pa_cons (pd_int) (pa_nil))))) (pa_nil)) (len_cons_ (fun _ _ _ _ h => len_nil_ h)))) (ss_one (s_ret (pd_bl))) (ss_nil)) (ss_cons (s_if (pt_not (pt_w (pw_and (pt_cmp (oEq O) (pd_call O F_old_date (by decide) (pa_cons (pd_call O F_day_number (by decide) (pa_cons (pd_tup (pa_cons (pd_int) (pa_cons (pd_int) (pa_cons (pd_int) (pa_nil))))) (pa_nil)) (len_cons_ (fun _ _ _ _ h => len_nil_ h))) (pa_nil)) (len_cons_ (fun _ _ _ _ h => len_nil_ h))) (pd_tup (pa_cons (pd_int) (pa_cons (pd_int) (pa_cons (pd_int) (pa_nil)))))) (pw_and1 (pt_cmp (oEq O) (pd_call O F_apart_calendars (by decide) (pa_cons (pd_tup (pa_cons (pd_int) (pa_cons (pd_int) (pa_cons (pd_int) (pa_nil))))) (pa_nil)) (len_cons_ (fun _ _ _ _ h => len_nil_ h))) (pd_int)))))) (ss_one (s_ret (pd_bl))) (ss_nil)) (ss_cons (s_if (pt_not (pt_w (pw_and (pt_cmp (oEq O) (pd_call O F_old_date (by decide) (pa_cons (pd_int) (pa_nil)) (len_cons_ (fun _ _ _ _ h => len_nil_ h))) (pd_tup (pa_cons (pd_int) (pa_cons (pd_int) (pa_cons (pd_int) (pa_nil)))))) (pw_and (pt_cmp (oEq O) (pd_call O F_later (by decide) (pa_cons (pd_tup (pa_cons (pd_int) (pa_cons (pd_int) (pa_cons (pd_int) (pa_nil))))) (pa_cons (pd_int) (pa_nil))) (len_cons_ (len_cons_ (fun _ _ _ _ h => len_nil_ h)))) (pd_tup (pa_cons (pd_int) (pa_cons (pd_int) (pa_cons (pd_int) (pa_nil)))))) (pw_and1 (pt_not (pt_tru O (pd_call O F_is_leap (by decide) (pa_cons (pd_int) (pa_nil)) (len_cons_ (fun _ _ _ _ h => len_nil_ h)))))))))) (ss_one (s_ret (pd_bl))) (ss_nil)) (ss_cons (s_if (pt_not (pt_w (pw_and (pt_tru O (pd_call O F_is_leap (by decide) (pa_cons (pd_int) (pa_nil)) (len_cons_ (fun _ _ _ _ h => len_nil_ h)))) (pw_and1 (pt_cmp (oEq O) (pd_call O F_date_of (by decide) (pa_cons (pd_int) (pa_nil)) (len_cons_ (fun _ _ _ _ h => len_nil_ h))) (pd_tup (pa_cons (pd_int) (pa_cons (pd_int) (pa_cons (pd_int) (pa_nil)))))))))) (ss_one (s_ret (pd_bl))) (ss_nil)) (ss_one (s_ret (pd_cmp (oEq O) (pd_call O F_old_number (by decide) (pa_cons (pd_tup (pa_cons (pd_int) (pa_cons (pd_int) (pa_cons (pd_int) (pa_nil))))) (pa_nil)) (len_cons_ (fun _ _ _ _ h => len_nil_ h))) (pd_call O F_day_number (by decide) (pa_cons (pd_tup (pa_cons (pd_int) (pa_cons (pd_int) (pa_cons (pd_int) (pa_nil))))) (pa_nil)) (len_cons_ (fun _ _ _ _ h => len_nil_ h)))))))))))))))
/-! _law_dice -/
def b__law_dice : DS := dSeq (dIfS (dB (dChain aLt aLt (dBin aSub (dC (.int 0)) (dC (.int 10))) (dVar 0) (dC (.int 10)))) (dRet (dLst true (dCons (dCall bAbs (dCons (dVar 0) (dNil))) (dCons (dC (.int 0)) (dCons (dC (.int 2)) (dNil)))))) (dNext)) (dRet (dLst true (dCons (dVar 0) (dCons (dBin (aAdd false) (dC (.int 1)) (dBin aMod (dCall bInt (dCons (dVar 0) (dNil))) (dC (.int 1009)))) (dCons (dCall bInt (dCons (dBin aGe (dVar 0) (dBin aPow (dC (.int 10)) (dC (.int 18)))) (dNil))) (dNil))))))
def f__law_dice : List D → Store → R D := runB 1 b__law_dice
theorem fn__law_dice (T : Txt g mg) (B : Tbs g mg base) : FnD P w mg base g 1 "_law_dice" 1 f__law_dice := by
  refine (fn_D T.d__law_dice sc__law_dice rfl fun fa cdv A outer s H E O => ?_)
  exact ss_cons (s_if (pt_chain (oLt O) (oLt O) (pd_bin oSub (pd_int) (pd_int)) (pd_var 0) (pd_int)) (ss_one (s_ret (pd_lst true (pa_cons (pd_callB cAbs T.n_abs PyProof.Rows.boot_abs (pa_cons (pd_var 0) (pa_nil))) (pa_cons (pd_int) (pa_cons (pd_int) (pa_nil))))))) (ss_nil)) (ss_one (s_ret (pd_lst true (pa_cons (pd_var 0) (pa_cons (pd_bin (oAdd O) (pd_int) (pd_bin oMod (pd_callT cInt T.n_int PyProof.Rows.boot_int (pa_cons (pd_var 0) (pa_nil))) (pd_int))) (pa_cons (pd_callT cInt T.n_int PyProof.Rows.boot_int (pa_cons (pd_cmp oGe (pd_var 0) (pd_bin oPow (pd_int) (pd_int))) (pa_nil))) (pa_nil)))))))
/-! _law_rounds -/
def y__law_rounds_1 : DE := dCall f__law_dice (dCons (dVar 3) (dNil))
def b__law_rounds : DS := dSeq (dAsg (dSl false (dVar 0) (dNoP) (dP (dVar 1))) (dgName 2)) (dSeq (dIfS (dB (dBin aEq (dVar 2) (dLst false (dNil)))) (dAsg (dLst false (dCons (dC (.int 0)) (dNil))) (dgName 2)) (dNext)) (dRet (dLc false (dIt (dVar 2)) (dgName 3) (dYes) y__law_rounds_1 [3])))
def f__law_rounds : List D → Store → R D := runB 4 b__law_rounds
theorem fn__law_rounds (T : Txt g mg) (B : Tbs g mg base) : FnD P w mg base g 2 "_law_rounds" 2 f__law_rounds := by
  have F__law_dice := (fn__law_dice (P := P) (w := w) (base := base) T B)
  refine (fn_D T.d__law_rounds sc__law_rounds rfl fun fa cdv A outer s H E O => ?_)
  exact ss_cons (s_asg (pd_slice false O (pd_var 0) (po_none) (po_some (pd_var 1))) (g_name 2 O)) (ss_cons (s_if (pt_cmp (oEq O) (pd_var 2) (pd_lst false (pa_nil))) (ss_one (s_asg (pd_lst false (pa_cons (pd_int) (pa_nil))) (g_name 2 O))) (ss_nil)) (ss_one (s_ret (pd_lc false (own := [(("cell" : Str), 3)]) O (i_seq O (pd_var 2)) (blkOk_by (N := ["script", "most", "cells", "cell"]) (sc := defScope s__law_rounds) (by decide +kernel)) (fun _ _ _ _ _ => g_name 3 (O.blk _ _ _ _ _)) (fun _ _ _ _ _ => ts_nil) (fun _ _ _ _ _ => pd_call (O.blk _ _ _ _ _) F__law_dice (by decide) (pa_cons (pd_var 3) (pa_nil)) (len_cons_ (fun _ _ _ _ h => len_nil_ h)))))))
/-! law -/
def p_law_1 : DS := dAsg (dTup (dCons (dCall f__law_date (dCons (dVar 1) (dNil))) (dCons (dCall f__law_date (dCons (dVar 1) (dNil))) (dNil)))) (dgTup 2 (dgCons (dgName 2) (dgCons (dgName 3) (dgNil))))
def p_law_2 : DS := dAsg (dCall f__law_number (dCons (dVar 2) (dNil))) (dgName 4)
def p_law_3 : DS := dIfS (dOr (dB (dBin aNe (dCall f_day_number (dCons (dVar 2) (dNil))) (dVar 4))) (dOr (dB (dBin aNe (dCall f_date_of (dCons (dVar 4) (dNil))) (dVar 2))) (dB (dBin aNotN (dCall f_check_date (dCons (dVar 2) (dNil))) (dC .non))))) (dRet (dC (.bl false))) (dNext)
def p_law_4 : DS := dIfS (dOr (dB (dBin aNe (dCall f_weekday_of (dCons (dVar 4) (dNil))) (dBin aMod (dBin (aAdd false) (dVar 4) (dC (.int 6))) (dC (.int 7))))) (dB (dBin aNe (dCall f_is_leap (dCons (dBin aIx (dVar 2) (dC (.int 0))) (dNil))) (dCall f__law_leap (dCons (dBin aIx (dVar 2) (dC (.int 0))) (dCons (dC (.bl false)) (dNil))))))) (dRet (dC (.bl false))) (dNext)
def y_law_1 : DE := dCall f_days_in_month (dCons (dBin aIx (dVar 2) (dC (.int 0))) (dCons (dVar 5) (dNil)))
def y_law_2 : DE := dCall f__law_long (dCons (dBin aIx (dVar 2) (dC (.int 0))) (dCons (dVar 5) (dCons (dC (.bl false)) (dNil))))
def p_law_5 : DS := dIfS (dB (dBin aNe (dLc false (dRng2 (dC (.int 1)) (dC (.int 13))) (dgName 5) (dYes) y_law_1 [5]) (dLc false (dRng2 (dC (.int 1)) (dC (.int 13))) (dgName 5) (dYes) y_law_2 [5]))) (dRet (dC (.bl false))) (dNext)
def y_law_3 : DE := dCall f_month_length_old (dCons (dBin aIx (dVar 2) (dC (.int 0))) (dCons (dVar 5) (dNil)))
def y_law_4 : DE := dCall f__law_long (dCons (dBin aIx (dVar 2) (dC (.int 0))) (dCons (dVar 5) (dCons (dC (.bl true)) (dNil))))
def p_law_6 : DS := dIfS (dB (dBin aNe (dLc false (dRng2 (dC (.int 1)) (dC (.int 13))) (dgName 5) (dYes) y_law_3 [5]) (dLc false (dRng2 (dC (.int 1)) (dC (.int 13))) (dgName 5) (dYes) y_law_4 [5]))) (dRet (dC (.bl false))) (dNext)
def p_law_7 : DS := dAsg (dBin (aAdd false) (dBin aSub (dVar 4) (dCall f__law_number (dCons (dTup (dCons (dBin aIx (dVar 2) (dC (.int 0))) (dCons (dC (.int 1)) (dCons (dC (.int 1)) (dNil))))) (dNil)))) (dC (.int 1))) (dgName 6)
def p_law_8 : DS := dIfS (dOr (dB (dBin aNe (dCall f_day_of_year (dCons (dVar 2) (dNil))) (dVar 6))) (dB (dBin aNe (dCall f_by_day_of_year (dCons (dBin aIx (dVar 2) (dC (.int 0))) (dCons (dVar 6) (dNil)))) (dVar 2)))) (dRet (dC (.bl false))) (dNext)
def p_law_9 : DS := dIfS (dB (dBin aNe (dCall f_days_before_year (dCons (dBin aIx (dVar 2) (dC (.int 0))) (dNil))) (dBin aSub (dCall f__law_number (dCons (dTup (dCons (dBin aIx (dVar 2) (dC (.int 0))) (dCons (dC (.int 1)) (dCons (dC (.int 1)) (dNil))))) (dNil))) (dC (.int 1))))) (dRet (dC (.bl false))) (dNext)
def p_law_10 : DS := dIfS (dOr (dB (dBin aNe (dCall f_days_from (dCons (dVar 2) (dCons (dVar 3) (dNil)))) (dBin aSub (dCall f__law_number (dCons (dVar 3) (dNil))) (dVar 4)))) (dB (dBin aNe (dCall f_is_ahead (dCons (dVar 2) (dCons (dVar 3) (dNil)))) (dBin aLt (dVar 2) (dVar 3))))) (dRet (dC (.bl false))) (dNext)
def p_law_11 : DS := dPar [7, 8] (dCons (dVar 2) (dCons (dCall f__law_roll (dCons (dVar 1) (dCons (dC (.int 70)) (dNil)))) (dNil)))
def l_law_1 : DS := dAsg (dIf (dB (dBin aNe (dVar 7) (dTup (dCons (dC (.int 9999)) (dCons (dC (.int 12)) (dCons (dC (.int 31)) (dNil))))))) (dCall f__law_next (dCons (dVar 7) (dCons (dC (.bl false)) (dNil)))) (dVar 7)) (dgName 7)
def p_law_12 : DS := dFor (dRng1 (dVar 8)) (dgName 9) l_law_1
def p_law_13 : DS := dIfS (dAnd (dB (dBin aNe (dVar 7) (dTup (dCons (dC (.int 9999)) (dCons (dC (.int 12)) (dCons (dC (.int 31)) (dNil))))))) (dOr (dB (dBin aNe (dCall f_later (dCons (dVar 2) (dCons (dVar 8) (dNil)))) (dVar 7))) (dB (dBin aNe (dCall f_later (dCons (dVar 7) (dCons (dNeg (dVar 8)) (dNil)))) (dVar 2))))) (dRet (dC (.bl false))) (dNext)
def p_law_14 : DS := dAsg (dCall f_old_date (dCons (dVar 4) (dNil))) (dgName 10)
def p_law_15 : DS := dIfS (dOr (dB (dBin aNe (dCall f__law_old (dCons (dVar 10) (dNil))) (dVar 4))) (dOr (dNot (dB (dChain aLe aLe (dC (.int 1)) (dBin aIx (dVar 10) (dC (.int 2))) (dCall f__law_long (dCons (dBin aIx (dVar 10) (dC (.int 0))) (dCons (dBin aIx (dVar 10) (dC (.int 1))) (dCons (dC (.bl true)) (dNil)))))))) (dB (dBin aNe (dCall f_old_number (dCons (dVar 10) (dNil))) (dVar 4))))) (dRet (dC (.bl false))) (dNext)
def p_law_16 : DS := dIfS (dAnd (dB (dBin aLt (dVar 4) (dC (.int 3652059)))) (dB (dBin aNe (dCall f_old_date (dCons (dBin (aAdd false) (dVar 4) (dC (.int 1))) (dNil))) (dCall f__law_next (dCons (dVar 10) (dCons (dC (.bl true)) (dNil))))))) (dRet (dC (.bl false))) (dNext)
def p_law_17 : DS := dAsg (dIf (dB (dBin aGe (dCall f__law_old (dCons (dVar 2) (dNil))) (dC (.int 1)))) (dBin aSub (dCall f__law_old (dCons (dVar 2) (dNil))) (dVar 4)) (dC (.str "DayError"))) (dgName 11)
def p_law_18 : DS := dIfS (dB (dBin aNe (dTold ["DayError"] "DayError" (dCall f_apart_calendars (dCons (dVar 2) (dNil)))) (dVar 11))) (dRet (dC (.bl false))) (dNext)
def p_law_19 : DS := dAsg (dTup (dCons (dBin (aMul false) (dCall f__law_roll (dCons (dVar 1) (dCons (dC (.int 3)) (dNil)))) (dC (.int 5000))) (dCons (dCall f__law_roll (dCons (dVar 1) (dCons (dC (.int 15)) (dNil)))) (dCons (dCall f__law_roll (dCons (dVar 1) (dCons (dC (.int 34)) (dNil)))) (dNil))))) (dgTup 3 (dgCons (dgName 12) (dgCons (dgName 5) (dgCons (dgName 13) (dgNil)))))
def p_law_20 : DS := dAsg (dAndV (dChain aLe aLe (dC (.int 1)) (dVar 12) (dC (.int 9999))) (dAndV (dChain aLe aLe (dC (.int 1)) (dVar 5) (dC (.int 12))) (dChain aLe aLe (dC (.int 1)) (dVar 13) (dCall f__law_long (dCons (dCall bMax2 (dCons (dC (.int 1)) (dCons (dVar 12) (dNil)))) (dCons (dCall bMin2 (dCons (dC (.int 12)) (dCons (dCall bMax2 (dCons (dC (.int 1)) (dCons (dVar 5) (dNil)))) (dNil)))) (dCons (dC (.bl false)) (dNil)))))))) (dgName 14)
def p_law_21 : DS := dIfS (dB (dBin aNe (dBin aNe (dTold ["DayError"] "DayError" (dCall f_day_number (dCons (dTup (dCons (dVar 12) (dCons (dVar 5) (dCons (dVar 13) (dNil))))) (dNil)))) (dC (.str "DayError"))) (dVar 14))) (dRet (dC (.bl false))) (dNext)
def l_law_2 : DS := dSeq (p_law_1) (dSeq (p_law_2) (dSeq (p_law_3) (dSeq (p_law_4) (dSeq (p_law_5) (dSeq (p_law_6) (dSeq (p_law_7) (dSeq (p_law_8) (dSeq (p_law_9) (dSeq (p_law_10) (dSeq (p_law_11) (dSeq (p_law_12) (dSeq (p_law_13) (dSeq (p_law_14) (dSeq (p_law_15) (dSeq (p_law_16) (dSeq (p_law_17) (dSeq (p_law_18) (dSeq (p_law_19) (dSeq (p_law_20) (p_law_21))))))))))))))))))))
def b_law : DS := dSeq (dFor (dIt (dCall f__law_rounds (dCons (dVar 0) (dCons (dC (.int 1)) (dNil))))) (dgName 1) l_law_2) (dRet (dCall f__law_plain (dNil)))
def f_law : List D → Store → R D := runB 15 b_law
theorem ok_law (T : Txt g mg) (B : Tbs g mg base) {fa : Addr} {oc kV doc pm ct : Value} {od an : Option Addr} {osl : Array (Option Value)} {cA : Addr} (hc : (g.cp "law").1 = cA) (lk : g.K.lookup fa = some ⟨oc, od, .func (PySem.W.fnOf "law" "law" (defArgs s_law) (defBody s_law) (defScope s_law) .none kV doc pm an (.ref cA) ct), osl⟩) (hcd : PySem.W.codeIn g.K (.ref cA) "law" = true) : L2.FnOk P w g.K mg base (L2.CX P w) 11 fa (PySem.W.fnOf "law" "law" (defArgs s_law) (defBody s_law) (defScope s_law) .none kV doc pm an (.ref cA) ct) ["script"] (spD g 1 f_law) := by
  subst hc
  have F__law_date := (fn__law_date (P := P) (w := w) (base := base) T B)
  have F__law_leap := (fn__law_leap (P := P) (w := w) (base := base) T B)
  have F__law_long := (fn__law_long (P := P) (w := w) (base := base) T B)
  have F__law_next := (fn__law_next (P := P) (w := w) (base := base) T B)
  have F__law_number := (fn__law_number (P := P) (w := w) (base := base) T B)
  have F__law_old := (fn__law_old (P := P) (w := w) (base := base) T B)
  have F__law_plain := (fn__law_plain (P := P) (w := w) (base := base) T B)
  have F__law_roll := (fn__law_roll (P := P) (w := w) (base := base) T B)
  have F__law_rounds := (fn__law_rounds (P := P) (w := w) (base := base) T B)
  have F_apart_calendars := (fn_apart_calendars (P := P) (w := w) (base := base) T B)
  have F_by_day_of_year := (fn_by_day_of_year (P := P) (w := w) (base := base) T B)
  have F_check_date := (fn_check_date (P := P) (w := w) (base := base) T B)
  have F_date_of := (fn_date_of (P := P) (w := w) (base := base) T B)
  have F_day_number := (fn_day_number (P := P) (w := w) (base := base) T B)
  have F_day_of_year := (fn_day_of_year (P := P) (w := w) (base := base) T B)
  have F_days_before_year := (fn_days_before_year (P := P) (w := w) (base := base) T B)
  have F_days_from := (fn_days_from (P := P) (w := w) (base := base) T B)
  have F_days_in_month := (fn_days_in_month (P := P) (w := w) (base := base) T B)
  have F_is_ahead := (fn_is_ahead (P := P) (w := w) (base := base) T B)
  have F_is_leap := (fn_is_leap (P := P) (w := w) (base := base) T B)
  have F_later := (fn_later (P := P) (w := w) (base := base) T B)
  have F_month_length_old := (fn_month_length_old (P := P) (w := w) (base := base) T B)
  have F_old_date := (fn_old_date (P := P) (w := w) (base := base) T B)
  have F_old_number := (fn_old_number (P := P) (w := w) (base := base) T B)
  have F_weekday_of := (fn_weekday_of (P := P) (w := w) (base := base) T B)
  refine ok_L lk hcd B.t_law T.mT_law T.hu_law sc_law rfl fun A outer s H E O M => ?_
  exact ss_cons (s_for O (i_seq O (pd_call O F__law_rounds (by decide) (pa_cons (pd_var 0) (pa_cons (pd_int) (pa_nil))) (len_cons_ (len_cons_ (fun _ _ _ _ h => len_nil_ h))))) (g_name 1 O) (ss_cons (s_asg (pd_tup (pa_cons (pd_call O F__law_date (by decide) (pa_cons (pd_var 1) (pa_nil)) (len_cons_ (fun _ _ _ _ h => len_nil_ h))) (pa_cons (pd_call O F__law_date (by decide) (pa_cons (pd_var 1) (pa_nil)) (len_cons_ (fun _ _ _ _ h => len_nil_ h))) (pa_nil)))) (g_tup O (gs_cons (g_name 2 O) (gs_cons (g_name 3 O) (gs_nil))))) (ss_cons (s_asg (pd_call O F__law_number (by decide) (pa_cons (pd_var 2) (pa_nil)) (len_cons_ (fun _ _ _ _ h => len_nil_ h))) (g_name 4 O)) (ss_cons (s_if (pt_w (pw_or (pt_cmp (oNe O) (pd_call O F_day_number (by decide) (pa_cons (pd_var 2) (pa_nil)) (len_cons_ (fun _ _ _ _ h => len_nil_ h))) (pd_var 4)) (pw_or (pt_cmp (oNe O) (pd_call O F_date_of (by decide) (pa_cons (pd_var 4) (pa_nil)) (len_cons_ (fun _ _ _ _ h => len_nil_ h))) (pd_var 2)) (pw_or1 (pt_cmp oNotN (pd_call O F_check_date (by decide) (pa_cons (pd_var 2) (pa_nil)) (len_cons_ (fun _ _ _ _ h => len_nil_ h))) (pd_non)))))) (ss_one (s_ret (pd_bl))) (ss_nil)) (ss_cons (s_if (pt_w (pw_or (pt_cmp (oNe O) (pd_call O F_weekday_of (by decide) (pa_cons (pd_var 4) (pa_nil)) (len_cons_ (fun _ _ _ _ h => len_nil_ h))) (pd_bin oMod (pd_bin (oAdd O) (pd_var 4) (pd_int)) (pd_int))) (pw_or1 (pt_cmp (oNe O) (pd_call O F_is_leap (by decide) (pa_cons (pd_ix O (pd_var 2) (pd_int)) (pa_nil)) (len_cons_ (fun _ _ _ _ h => len_nil_ h))) (pd_call O F__law_leap (by decide) (pa_cons (pd_ix O (pd_var 2) (pd_int)) (pa_cons (pd_bl) (pa_nil))) (len_cons_ (len_cons_ (fun _ _ _ _ h => len_nil_ h)))))))) (ss_one (s_ret (pd_bl))) (ss_nil)) (ss_cons (s_if (pt_cmp (oNe O) (pd_lc false (own := [(("month" : Str), 5)]) O (i_range2 T.n_range (pd_int) (pd_int)) (blkOk_by (N := ["script", "dice", "date", "other", "number", "month", "place", "here", "steps", "turn", "old", "due", "year", "day", "good"]) (sc := defScope s_law) (by decide +kernel)) (fun _ _ _ _ _ => g_name 5 (O.blk _ _ _ _ _)) (fun _ _ _ _ _ => ts_nil) (fun _ _ _ _ _ => pd_call (O.blk _ _ _ _ _) F_days_in_month (by decide) (pa_cons (pd_ix (O.blk _ _ _ _ _) (pd_var 2) (pd_int)) (pa_cons (pd_var 5) (pa_nil))) (len_cons_ (len_cons_ (fun _ _ _ _ h => len_nil_ h))))) (pd_lc false (own := [(("month" : Str), 5)]) O (i_range2 T.n_range (pd_int) (pd_int)) (blkOk_by (N := ["script", "dice", "date", "other", "number", "month", "place", "here", "steps", "turn", "old", "due", "year", "day", "good"]) (sc := defScope s_law) (by decide +kernel)) (fun _ _ _ _ _ => g_name 5 (O.blk _ _ _ _ _)) (fun _ _ _ _ _ => ts_nil) (fun _ _ _ _ _ => pd_call (O.blk _ _ _ _ _) F__law_long (by decide) (pa_cons (pd_ix (O.blk _ _ _ _ _) (pd_var 2) (pd_int)) (pa_cons (pd_var 5) (pa_cons (pd_bl) (pa_nil)))) (len_cons_ (len_cons_ (len_cons_ (fun _ _ _ _ h => len_nil_ h))))))) (ss_one (s_ret (pd_bl))) (ss_nil)) (ss_cons (s_if (pt_cmp (oNe O) (pd_lc false (own := [(("month" : Str), 5)]) O (i_range2 T.n_range (pd_int) (pd_int)) (blkOk_by (N := ["script", "dice", "date", "other", "number", "month", "place", "here", "steps", "turn", "old", "due", "year", "day", "good"]) (sc := defScope s_law) (by decide +kernel)) (fun _ _ _ _ _ => g_name 5 (O.blk _ _ _ _ _)) (fun _ _ _ _ _ => ts_nil) (fun _ _ _ _ _ => pd_call (O.blk _ _ _ _ _) F_month_length_old (by decide) (pa_cons (pd_ix (O.blk _ _ _ _ _) (pd_var 2) (pd_int)) (pa_cons (pd_var 5) (pa_nil))) (len_cons_ (len_cons_ (fun _ _ _ _ h => len_nil_ h))))) (pd_lc false (own := [(("month" : Str), 5)]) O (i_range2 T.n_range (pd_int) (pd_int)) (blkOk_by (N := ["script", "dice", "date", "other", "number", "month", "place", "here", "steps", "turn", "old", "due", "year", "day", "good"]) (sc := defScope s_law) (by decide +kernel)) (fun _ _ _ _ _ => g_name 5 (O.blk _ _ _ _ _)) (fun _ _ _ _ _ => ts_nil) (fun _ _ _ _ _ => pd_call (O.blk _ _ _ _ _) F__law_long (by decide) (pa_cons (pd_ix (O.blk _ _ _ _ _) (pd_var 2) (pd_int)) (pa_cons (pd_var 5) (pa_cons (pd_bl) (pa_nil)))) (len_cons_ (len_cons_ (len_cons_ (fun _ _ _ _ h => len_nil_ h))))))) (ss_one (s_ret (pd_bl))) (ss_nil)) (ss_cons (s_asg (pd_bin (oAdd O) (pd_bin oSub (pd_var 4) (pd_call O F__law_number (by decide) (pa_cons (pd_tup (pa_cons (pd_ix O (pd_var 2) (pd_int)) (pa_cons (pd_int) (pa_cons (pd_int) (pa_nil))))) (pa_nil)) (len_cons_ (fun _ _ _ _ h => len_nil_ h)))) (pd_int)) (g_name 6 O)) (ss_cons (s_if (pt_w (pw_or (pt_cmp (oNe O) (pd_call O F_day_of_year (by decide) (pa_cons (pd_var 2) (pa_nil)) (len_cons_ (fun _ _ _ _ h => len_nil_ h))) (pd_var 6)) (pw_or1 (pt_cmp (oNe O) (pd_call O F_by_day_of_year (by decide) (pa_cons (pd_ix O (pd_var 2) (pd_int)) (pa_cons (pd_var 6) (pa_nil))) (len_cons_ (len_cons_ (fun _ _ _ _ h => len_nil_ h)))) (pd_var 2))))) (ss_one (s_ret (pd_bl))) (ss_nil)) (ss_cons (s_if (pt_cmp (oNe O) (pd_call O F_days_before_year (by decide) (pa_cons (pd_ix O (pd_var 2) (pd_int)) (pa_nil)) (len_cons_ (fun _ _ _ _ h => len_nil_ h))) (pd_bin oSub (pd_call O F__law_number (by decide) (pa_cons (pd_tup (pa_cons (pd_ix O (pd_var 2) (pd_int)) (pa_cons (pd_int) (pa_cons (pd_int) (pa_nil))))) (pa_nil)) (len_cons_ (fun _ _ _ _ h => len_nil_ h))) (pd_int))) (ss_one (s_ret (pd_bl))) (ss_nil)) (ss_cons (s_if (pt_w (pw_or (pt_cmp (oNe O) (pd_call O F_days_from (by decide) (pa_cons (pd_var 2) (pa_cons (pd_var 3) (pa_nil))) (len_cons_ (len_cons_ (fun _ _ _ _ h => len_nil_ h)))) (pd_bin oSub (pd_call O F__law_number (by decide) (pa_cons (pd_var 3) (pa_nil)) (len_cons_ (fun _ _ _ _ h => len_nil_ h))) (pd_var 4))) (pw_or1 (pt_cmp (oNe O) (pd_call O F_is_ahead (by decide) (pa_cons (pd_var 2) (pa_cons (pd_var 3) (pa_nil))) (len_cons_ (len_cons_ (fun _ _ _ _ h => len_nil_ h)))) (pd_cmp (oLt O) (pd_var 2) (pd_var 3)))))) (ss_one (s_ret (pd_bl))) (ss_nil)) (ss_cons (s_par (i := 7) (j := 8) O (pa_cons (pd_var 2) (pa_cons (pd_call O F__law_roll (by decide) (pa_cons (pd_var 1) (pa_cons (pd_int) (pa_nil))) (len_cons_ (len_cons_ (fun _ _ _ _ h => len_nil_ h)))) (pa_nil)))) (ss_cons (s_for O (i_range1 T.n_range (pd_var 8)) (g_name 9 O) (ss_one (s_asg (pd_if (pt_cmp (oNe O) (pd_var 7) (pd_tup (pa_cons (pd_int) (pa_cons (pd_int) (pa_cons (pd_int) (pa_nil)))))) (pd_call O F__law_next (by decide) (pa_cons (pd_var 7) (pa_cons (pd_bl) (pa_nil))) (len_cons_ (len_cons_ (fun _ _ _ _ h => len_nil_ h)))) (pd_var 7)) (g_name 7 O)))) (ss_cons (s_if (pt_w (pw_and (pt_cmp (oNe O) (pd_var 7) (pd_tup (pa_cons (pd_int) (pa_cons (pd_int) (pa_cons (pd_int) (pa_nil)))))) (pw_and1 (pt_w (pw_or (pt_cmp (oNe O) (pd_call O F_later (by decide) (pa_cons (pd_var 2) (pa_cons (pd_var 8) (pa_nil))) (len_cons_ (len_cons_ (fun _ _ _ _ h => len_nil_ h)))) (pd_var 7)) (pw_or1 (pt_cmp (oNe O) (pd_call O F_later (by decide) (pa_cons (pd_var 7) (pa_cons (pd_neg (pd_var 8)) (pa_nil))) (len_cons_ (len_cons_ (fun _ _ _ _ h => len_nil_ h)))) (pd_var 2)))))))) (ss_one (s_ret (pd_bl))) (ss_nil)) (ss_cons (s_asg (pd_call O F_old_date (by decide) (pa_cons (pd_var 4) (pa_nil)) (len_cons_ (fun _ _ _ _ h => len_nil_ h))) (g_name 10 O)) (ss_cons (s_if (pt_w (pw_or (pt_cmp (oNe O) (pd_call O F__law_old (by decide) (pa_cons (pd_var 10) (pa_nil)) (len_cons_ (fun _ _ _ _ h => len_nil_ h))) (pd_var 4)) (pw_or (pt_not (pt_chain oLe oLe (pd_int) (pd_ix O (pd_var 10) (pd_int)) (pd_call O F__law_long (by decide) (pa_cons (pd_ix O (pd_var 10) (pd_int)) (pa_cons (pd_ix O (pd_var 10) (pd_int)) (pa_cons (pd_bl) (pa_nil)))) (len_cons_ (len_cons_ (len_cons_ (fun _ _ _ _ h => len_nil_ h))))))) (pw_or1 (pt_cmp (oNe O) (pd_call O F_old_number (by decide) (pa_cons (pd_var 10) (pa_nil)) (len_cons_ (fun _ _ _ _ h => len_nil_ h))) (pd_var 4)))))) (ss_one (s_ret (pd_bl))) (ss_nil)) (ss_cons (s_if (pt_w (pw_and (pt_cmp (oLt O) (pd_var 4) (pd_int)) (pw_and1 (pt_cmp (oNe O) (pd_call O F_old_date (by decide) (pa_cons (pd_bin (oAdd O) (pd_var 4) (pd_int)) (pa_nil)) (len_cons_ (fun _ _ _ _ h => len_nil_ h))) (pd_call O F__law_next (by decide) (pa_cons (pd_var 10) (pa_cons (pd_bl) (pa_nil))) (len_cons_ (len_cons_ (fun _ _ _ _ h => len_nil_ h)))))))) (ss_one (s_ret (pd_bl))) (ss_nil)) (ss_cons (s_asg (pd_if (pt_cmp oGe (pd_call O F__law_old (by decide) (pa_cons (pd_var 2) (pa_nil)) (len_cons_ (fun _ _ _ _ h => len_nil_ h))) (pd_int)) (pd_bin oSub (pd_call O F__law_old (by decide) (pa_cons (pd_var 2) (pa_nil)) (len_cons_ (fun _ _ _ _ h => len_nil_ h))) (pd_var 4)) (pd_str)) (g_name 11 O)) (ss_cons (s_if (pt_cmp (oNe O) (pd_told (tb := ["DayError"]) (j := 8) O M T.told T.e_DayError T.c_told (by decide) (fun A outer s H E f c O => pd_call O F_apart_calendars (by decide) (pa_cons (pd_var 2) (pa_nil)) (len_cons_ (fun _ _ _ _ h => len_nil_ h)))) (pd_var 11)) (ss_one (s_ret (pd_bl))) (ss_nil)) (ss_cons (s_asg (pd_tup (pa_cons (pd_bin oMul (pd_call O F__law_roll (by decide) (pa_cons (pd_var 1) (pa_cons (pd_int) (pa_nil))) (len_cons_ (len_cons_ (fun _ _ _ _ h => len_nil_ h)))) (pd_int)) (pa_cons (pd_call O F__law_roll (by decide) (pa_cons (pd_var 1) (pa_cons (pd_int) (pa_nil))) (len_cons_ (len_cons_ (fun _ _ _ _ h => len_nil_ h)))) (pa_cons (pd_call O F__law_roll (by decide) (pa_cons (pd_var 1) (pa_cons (pd_int) (pa_nil))) (len_cons_ (len_cons_ (fun _ _ _ _ h => len_nil_ h)))) (pa_nil))))) (g_tup O (gs_cons (g_name 12 O) (gs_cons (g_name 5 O) (gs_cons (g_name 13 O) (gs_nil)))))) (ss_cons (s_asg (pd_and (pd_chain oLe oLe (pd_int) (pd_var 12) (pd_int)) (pd_and (pd_chain oLe oLe (pd_int) (pd_var 5) (pd_int)) (pd_one (pd_chain oLe oLe (pd_int) (pd_var 13) (pd_call O F__law_long (by decide) (pa_cons (pd_callB (cMax2 O) T.n_max PyProof.Rows.boot_max (pa_cons (pd_int) (pa_cons (pd_var 12) (pa_nil)))) (pa_cons (pd_callB (cMin2 O) T.n_min PyProof.Rows.boot_min (pa_cons (pd_int) (pa_cons (pd_callB (cMax2 O) T.n_max PyProof.Rows.boot_max (pa_cons (pd_int) (pa_cons (pd_var 5) (pa_nil)))) (pa_nil)))) (pa_cons (pd_bl) (pa_nil)))) (len_cons_ (len_cons_ (len_cons_ (fun _ _ _ _ h => len_nil_ h))))))))) (g_name 14 O)) (ss_one (s_if (pt_cmp (oNe O) (pd_cmp (oNe O) (pd_told (tb := ["DayError"]) (j := 8) O M T.told T.e_DayError T.c_told (by decide) (fun A outer s H E f c O => pd_call O F_day_number (by decide) (pa_cons (pd_tup (pa_cons (pd_var 12) (pa_cons (pd_var 5) (pa_cons (pd_var 13) (pa_nil))))) (pa_nil)) (len_cons_ (fun _ _ _ _ h => len_nil_ h)))) (pd_str)) (pd_var 14)) (ss_one (s_ret (pd_bl))) (ss_nil)))))))))))))))))))))))) (ss_one (s_ret (pd_call0 O F__law_plain (by decide))))
end
end K01

namespace K01
open PySem G
def leapB (y : Int) : Bool := decide (y % 4 = 0) && (decide (y % 100 ≠ 0) || decide (y % 400 = 0))
theorem fm (i : Int) {j : Int} (h : 0 ≤ j := by decide) : i.fmod j = i % j := Int.fmod_eq_emod_of_nonneg i h
theorem fd (i : Int) {j : Int} (h : 0 ≤ j := by decide) : i.fdiv j = i / j := Int.fdiv_eq_ediv_of_nonneg i h
theorem fm4 (i : Int) : i.fmod 4 = i % 4 := fm i
theorem fm100 (i : Int) : i.fmod 100 = i % 100 := fm i
theorem fm400 (i : Int) : i.fmod 400 = i % 400 := fm i
theorem beqi (i j : Int) : (i == j) = decide (i = j) := by
  by_cases h : i = j <;> simp [h]
theorem v_is_leap (y : Int) (st : Store) : f_is_leap [.int y] st = if 1 ≤ y ∧ y ≤ 9999 then .ok (.bl (leapB y)) st else .ex "DayError" st := by
  unfold f_is_leap b_is_leap runB leapB
  by_cases h1 : 1 ≤ y <;> by_cases h2 : y ≤ 9999 <;> by_cases h3 : y % 4 = 0 <;> by_cases h4 : y % 100 = 0 <;> simp [dSeq, dIfS, dNot, dB, dChain, dC, dVar, dRet, dRetN, dNext, dAndV, dOrV, dNotV, dAnd, dOr, dIf, dTru, truD, dBin, dCons, dNil, dTup, dLst, mkL, dCall, dAsg, dAug, dPar, dgName, dgTup, dgCons, dgNil, dDrop, R.bind, R.s, R.b, aLe, aLt, aGt, aGe, aSub, aAdd, aMul, aFdiv, aMod, aEq, aNe, aIsN, aNotN, D.isNon, aAddI, aIx, L2.atI, L2.ixN, beqi, seqA, seqL, seqR, okEq, norm, D.isSc, D.isStr, D.dat, D.dats, D.dep, D.deps, D.eqv, D.eqvs, dRaise, dNeg, bSum, bAbs, bInt, bMax2, bMin2, bLen, intsD, dSl, aSl, dP, dNoP, okMul, fm, fd, c_MOST_YEAR, h1, h2, h3, h4, fm4, fm100, fm400]
  done
theorem v_days_in_month (y m : Int) (st : Store) : f_days_in_month [.int y, .int m] st = if (1 ≤ y ∧ y ≤ 9999) ∧ 1 ≤ m ∧ m ≤ 12 then .ok (.int ([31, 28, 31, 30, 31, 30, 31, 31, 30, 31, 30, 31].getD (m - 1).toNat 0 + if m = 2 ∧ leapB y = true then 1 else 0)) st else .ex "DayError" st := by
  unfold f_days_in_month b_days_in_month runB
  by_cases h : 1 ≤ y ∧ y ≤ 9999
  · have e := v_is_leap y st
    rw [if_pos h] at e
    by_cases h1 : 1 ≤ m
    · by_cases h2 : m ≤ 12
      · have hm : m = 1 ∨ m = 2 ∨ m = 3 ∨ m = 4 ∨ m = 5 ∨ m = 6 ∨ m = 7 ∨ m = 8 ∨ m = 9 ∨ m = 10 ∨ m = 11 ∨ m = 12 := by omega
        rcases hm with rfl | rfl | rfl | rfl | rfl | rfl | rfl | rfl | rfl | rfl | rfl | rfl <;> cases hl : leapB y <;> simp [dSeq, dIfS, dNot, dB, dChain, dC, dVar, dRet, dRetN, dNext, dAndV, dOrV, dNotV, dAnd, dOr, dIf, dTru, truD, dBin, dCons, dNil, dTup, dLst, mkL, dCall, dAsg, dAug, dPar, dgName, dgTup, dgCons, dgNil, dDrop, R.bind, R.s, R.b, aLe, aLt, aGt, aGe, aSub, aAdd, aMul, aFdiv, aMod, aEq, aNe, aIsN, aNotN, D.isNon, aAddI, aIx, L2.atI, L2.ixN, beqi, seqA, seqL, seqR, okEq, norm, D.isSc, D.isStr, D.dat, D.dats, D.dep, D.deps, D.eqv, D.eqvs, dRaise, dNeg, bSum, bAbs, bInt, bMax2, bMin2, bLen, intsD, dSl, aSl, dP, dNoP, okMul, fm, fd, e, h, hl, c_MONTH_LENGTHS]
      · simp [dSeq, dIfS, dNot, dB, dChain, dC, dVar, dRet, dRetN, dNext, dAndV, dOrV, dNotV, dAnd, dOr, dIf, dTru, truD, dBin, dCons, dNil, dTup, dLst, mkL, dCall, dAsg, dAug, dPar, dgName, dgTup, dgCons, dgNil, dDrop, R.bind, R.s, R.b, aLe, aLt, aGt, aGe, aSub, aAdd, aMul, aFdiv, aMod, aEq, aNe, aIsN, aNotN, D.isNon, aAddI, aIx, L2.atI, L2.ixN, beqi, seqA, seqL, seqR, okEq, norm, D.isSc, D.isStr, D.dat, D.dats, D.dep, D.deps, D.eqv, D.eqvs, dRaise, dNeg, bSum, bAbs, bInt, bMax2, bMin2, bLen, intsD, dSl, aSl, dP, dNoP, okMul, fm, fd, e, h, h1, h2]
    · simp [dSeq, dIfS, dNot, dB, dChain, dC, dVar, dRet, dRetN, dNext, dAndV, dOrV, dNotV, dAnd, dOr, dIf, dTru, truD, dBin, dCons, dNil, dTup, dLst, mkL, dCall, dAsg, dAug, dPar, dgName, dgTup, dgCons, dgNil, dDrop, R.bind, R.s, R.b, aLe, aLt, aGt, aGe, aSub, aAdd, aMul, aFdiv, aMod, aEq, aNe, aIsN, aNotN, D.isNon, aAddI, aIx, L2.atI, L2.ixN, beqi, seqA, seqL, seqR, okEq, norm, D.isSc, D.isStr, D.dat, D.dats, D.dep, D.deps, D.eqv, D.eqvs, dRaise, dNeg, bSum, bAbs, bInt, bMax2, bMin2, bLen, intsD, dSl, aSl, dP, dNoP, okMul, fm, fd, e, h, h1]
  · have e := v_is_leap y st
    rw [if_neg h] at e
    simp [dSeq, dIfS, dNot, dB, dChain, dC, dVar, dRet, dRetN, dNext, dAndV, dOrV, dNotV, dAnd, dOr, dIf, dTru, truD, dBin, dCons, dNil, dTup, dLst, mkL, dCall, dAsg, dAug, dPar, dgName, dgTup, dgCons, dgNil, dDrop, R.bind, R.s, R.b, aLe, aLt, aGt, aGe, aSub, aAdd, aMul, aFdiv, aMod, aEq, aNe, aIsN, aNotN, D.isNon, aAddI, aIx, L2.atI, L2.ixN, beqi, seqA, seqL, seqR, okEq, norm, D.isSc, D.isStr, D.dat, D.dats, D.dep, D.deps, D.eqv, D.eqvs, dRaise, dNeg, bSum, bAbs, bInt, bMax2, bMin2, bLen, intsD, dSl, aSl, dP, dNoP, okMul, fm, fd, e, h]
def LT : List Int := [31, 28, 31, 30, 31, 30, 31, 31, 30, 31, 30, 31]
def dim (y m : Int) : Int := LT.getD (m - 1).toNat 0 + if m = 2 ∧ leapB y = true then 1 else 0
def YM (y m : Int) : Prop := (1 ≤ y ∧ y ≤ 9999) ∧ 1 ≤ m ∧ m ≤ 12
def Val (y m d : Int) : Prop := YM y m ∧ 1 ≤ d ∧ d ≤ dim y m
instance (y m : Int) : Decidable (YM y m) := by unfold YM; infer_instance
instance (y m d : Int) : Decidable (Val y m d) := by unfold Val; infer_instance
theorem e_dim (y m : Int) (st : Store) : f_days_in_month [.int y, .int m] st = if YM y m then .ok (.int (dim y m)) st else .ex "DayError" st := v_days_in_month y m st
theorem e_check (y m d : Int) (st : Store) : f_check_date [.tup [.int y, .int m, .int d]] st = if Val y m d then .ok .non st else .ex "DayError" st := by
  unfold f_check_date b_check_date runB Val
  by_cases h1 : 1 ≤ d
  · by_cases h : YM y m
    · by_cases h2 : d ≤ dim y m <;> simp [dSeq, dIfS, dNot, dB, dChain, dC, dVar, dRet, dRetN, dNext, dAndV, dOrV, dNotV, dAnd, dOr, dIf, dTru, truD, dBin, dCons, dNil, dTup, dLst, mkL, dCall, dAsg, dAug, dPar, dgName, dgTup, dgCons, dgNil, dDrop, R.bind, R.s, R.b, aLe, aLt, aGt, aGe, aSub, aAdd, aMul, aFdiv, aMod, aEq, aNe, aIsN, aNotN, D.isNon, aAddI, aIx, L2.atI, L2.ixN, beqi, seqA, seqL, seqR, okEq, norm, D.isSc, D.isStr, D.dat, D.dats, D.dep, D.deps, D.eqv, D.eqvs, dRaise, dNeg, bSum, bAbs, bInt, bMax2, bMin2, bLen, intsD, dSl, aSl, dP, dNoP, okMul, fm, fd, e_dim, h, h1, h2]
    · simp [dSeq, dIfS, dNot, dB, dChain, dC, dVar, dRet, dRetN, dNext, dAndV, dOrV, dNotV, dAnd, dOr, dIf, dTru, truD, dBin, dCons, dNil, dTup, dLst, mkL, dCall, dAsg, dAug, dPar, dgName, dgTup, dgCons, dgNil, dDrop, R.bind, R.s, R.b, aLe, aLt, aGt, aGe, aSub, aAdd, aMul, aFdiv, aMod, aEq, aNe, aIsN, aNotN, D.isNon, aAddI, aIx, L2.atI, L2.ixN, beqi, seqA, seqL, seqR, okEq, norm, D.isSc, D.isStr, D.dat, D.dats, D.dep, D.deps, D.eqv, D.eqvs, dRaise, dNeg, bSum, bAbs, bInt, bMax2, bMin2, bLen, intsD, dSl, aSl, dP, dNoP, okMul, fm, fd, e_dim, h, h1]
  · simp [dSeq, dIfS, dNot, dB, dChain, dC, dVar, dRet, dRetN, dNext, dAndV, dOrV, dNotV, dAnd, dOr, dIf, dTru, truD, dBin, dCons, dNil, dTup, dLst, mkL, dCall, dAsg, dAug, dPar, dgName, dgTup, dgCons, dgNil, dDrop, R.bind, R.s, R.b, aLe, aLt, aGt, aGe, aSub, aAdd, aMul, aFdiv, aMod, aEq, aNe, aIsN, aNotN, D.isNon, aAddI, aIx, L2.atI, L2.ixN, beqi, seqA, seqL, seqR, okEq, norm, D.isSc, D.isStr, D.dat, D.dats, D.dep, D.deps, D.eqv, D.eqvs, dRaise, dNeg, bSum, bAbs, bInt, bMax2, bMin2, bLen, intsD, dSl, aSl, dP, dNoP, okMul, fm, fd, h1]
def dby (y : Int) : Int := 365 * (y - 1) + (y - 1) / 4 - (y - 1) / 100 + (y - 1) / 400
theorem fd4 (i : Int) : i.fdiv 4 = i / 4 := fd i
theorem fd100 (i : Int) : i.fdiv 100 = i / 100 := fd i
theorem fd400 (i : Int) : i.fdiv 400 = i / 400 := fd i
theorem e_dby (y : Int) (st : Store) : f_days_before_year [.int y] st = .ok (.int (dby y)) st := by
  unfold f_days_before_year b_days_before_year runB dby
  simp [dSeq, dIfS, dNot, dB, dChain, dC, dVar, dRet, dRetN, dNext, dAndV, dOrV, dNotV, dAnd, dOr, dIf, dTru, truD, dBin, dCons, dNil, dTup, dLst, mkL, dCall, dAsg, dAug, dPar, dgName, dgTup, dgCons, dgNil, dDrop, R.bind, R.s, R.b, aLe, aLt, aGt, aGe, aSub, aAdd, aMul, aFdiv, aMod, aEq, aNe, aIsN, aNotN, D.isNon, aAddI, aIx, L2.atI, L2.ixN, beqi, seqA, seqL, seqR, okEq, norm, D.isSc, D.isStr, D.dat, D.dats, D.dep, D.deps, D.eqv, D.eqvs, dRaise, dNeg, bSum, bAbs, bInt, bMax2, bMin2, bLen, intsD, dSl, aSl, dP, dNoP, okMul, fm, fd, fd4, fd100, fd400]
/-- days of a year ahead of month m -/
def cum (y m : Int) : Int := [0, 31, 59, 90, 120, 151, 181, 212, 243, 273, 304, 334, 365].getD (m - 1).toNat 0 + if 2 < m ∧ leapB y = true then 1 else 0
def num (y m d : Int) : Int := dby y + cum y m + d
theorem m12 {m : Int} (h1 : 1 ≤ m) (h2 : m ≤ 12) : m = 1 ∨ m = 2 ∨ m = 3 ∨ m = 4 ∨ m = 5 ∨ m = 6 ∨ m = 7 ∨ m = 8 ∨ m = 9 ∨ m = 10 ∨ m = 11 ∨ m = 12 := by omega
theorem cum_next {y m : Int} (h1 : 1 ≤ m) (h2 : m ≤ 12) : cum y (m + 1) = cum y m + dim y m := by
  rcases m12 h1 h2 with rfl | rfl | rfl | rfl | rfl | rfl | rfl | rfl | rfl | rfl | rfl | rfl <;> cases hl : leapB y <;> simp [cum, dim, LT, hl]
theorem dim_pos {y m : Int} (h1 : 1 ≤ m) (h2 : m ≤ 12) : 28 ≤ dim y m ∧ dim y m ≤ 31 := by
  rcases m12 h1 h2 with rfl | rfl | rfl | rfl | rfl | rfl | rfl | rfl | rfl | rfl | rfl | rfl <;> cases hl : leapB y <;> simp [dim, LT, hl]
theorem e_num (y m d : Int) (st : Store) : f_day_number [.tup [.int y, .int m, .int d]] st = if Val y m d then .ok (.int (num y m d)) st else .ex "DayError" st := by
  unfold f_day_number b_day_number runB
  by_cases h : Val y m d
  · have hy := h.1.1
    rcases m12 h.1.2.1 h.1.2.2 with rfl | rfl | rfl | rfl | rfl | rfl | rfl | rfl | rfl | rfl | rfl | rfl <;> cases hl : leapB y <;> simp [dSeq, dIfS, dNot, dB, dChain, dC, dVar, dRet, dRetN, dNext, dAndV, dOrV, dNotV, dAnd, dOr, dIf, dTru, truD, dBin, dCons, dNil, dTup, dLst, mkL, dCall, dAsg, dAug, dPar, dgName, dgTup, dgCons, dgNil, dDrop, R.bind, R.s, R.b, aLe, aLt, aGt, aGe, aSub, aAdd, aMul, aFdiv, aMod, aEq, aNe, aIsN, aNotN, D.isNon, aAddI, aIx, L2.atI, L2.ixN, beqi, seqA, seqL, seqR, okEq, norm, D.isSc, D.isStr, D.dat, D.dats, D.dep, D.deps, D.eqv, D.eqvs, dRaise, dNeg, bSum, bAbs, bInt, bMax2, bMin2, bLen, intsD, dSl, aSl, dP, dNoP, okMul, fm, fd, e_check, v_is_leap, e_dby, h, hy, hl, c_MONTH_LENGTHS, HT.sIx, cutD, num, cum]
  · simp [dSeq, dIfS, dNot, dB, dChain, dC, dVar, dRet, dRetN, dNext, dAndV, dOrV, dNotV, dAnd, dOr, dIf, dTru, truD, dBin, dCons, dNil, dTup, dLst, mkL, dCall, dAsg, dAug, dPar, dgName, dgTup, dgCons, dgNil, dDrop, R.bind, R.s, R.b, aLe, aLt, aGt, aGe, aSub, aAdd, aMul, aFdiv, aMod, aEq, aNe, aIsN, aNotN, D.isNon, aAddI, aIx, L2.atI, L2.ixN, beqi, seqA, seqL, seqR, okEq, norm, D.isSc, D.isStr, D.dat, D.dats, D.dep, D.deps, D.eqv, D.eqvs, dRaise, dNeg, bSum, bAbs, bInt, bMax2, bMin2, bLen, intsD, dSl, aSl, dP, dNoP, okMul, fm, fd, e_check, h]
end K01

namespace K01
open PySem G
theorem while_inv {α : Type} {ft : DT} {fb : DS} {st : Store} (e : α → G.Env) (P : α → Prop) (m : α → Nat) (Q : α → Prop)
    (h : ∀ a, P a → (ft (e a) st = .ok false st ∧ Q a) ∨ (ft (e a) st = .ok true st ∧ ∃ b, fb (e a) st = .nx (e b) st ∧ P b ∧ m b < m a)) :
    ∀ (fuel : Nat) (a : α), P a → m a < fuel → ∃ b, whileD ft fb fuel (e a) st = .nx (e b) st ∧ Q b
  | 0, a, _, hm => absurd hm (Nat.not_lt_zero _)
  | fuel + 1, a, hp, hm => by
    rcases h a hp with ⟨h1, h2⟩ | ⟨h1, b, h2, h3, h4⟩
    · exact ⟨a, by simp [whileD, R.s, h1], h2⟩
    · obtain ⟨c, h5, h6⟩ := while_inv e P m Q h fuel b h3 (by omega)
      exact ⟨c, by simp [whileD, R.s, h1, h2, loopK, h5], h6⟩
theorem dwhile_inv {α : Type} {ft : DT} {fb : DS} {st : Store} {env : G.Env} (e : α → G.Env) (P : α → Prop) (m : α → Nat) (Q : α → Prop) (a : α) (he : env = e a) (hp : P a) (hm : m a < 100000000)
    (h : ∀ a, P a → (ft (e a) st = .ok false st ∧ Q a) ∨ (ft (e a) st = .ok true st ∧ ∃ b, fb (e a) st = .nx (e b) st ∧ P b ∧ m b < m a)) :
    ∃ b, dWhile ft fb env st = .nx (e b) st ∧ Q b := by
  subst he
  exact while_inv e P m Q h 100000000 a hp hm
theorem dby_next (y : Int) : dby (y + 1) = dby y + if leapB y = true then 366 else 365 := by
  unfold dby leapB
  by_cases h1 : y % 4 = 0 <;> by_cases h2 : y % 100 = 0 <;> by_cases h3 : y % 400 = 0 <;> simp [h1, h2, h3] <;> omega
theorem dby_mono {a b : Int} (h : a < b) : dby (a + 1) ≤ dby b := by
  unfold dby
  omega
theorem dby_one : dby 1 = 0 := by decide
theorem cum_mono {y k m : Int} (h1 : 1 ≤ k) (h2 : k < m) (h3 : m ≤ 13) : cum y (k + 1) ≤ cum y m := by
  have h4 : k ≤ 12 := by omega
  have hm : m = 2 ∨ m = 3 ∨ m = 4 ∨ m = 5 ∨ m = 6 ∨ m = 7 ∨ m = 8 ∨ m = 9 ∨ m = 10 ∨ m = 11 ∨ m = 12 ∨ m = 13 := by omega
  rcases m12 h1 h4 with rfl | rfl | rfl | rfl | rfl | rfl | rfl | rfl | rfl | rfl | rfl | rfl <;>
  rcases hm with rfl | rfl | rfl | rfl | rfl | rfl | rfl | rfl | rfl | rfl | rfl | rfl <;> first | omega | (cases hl : leapB y <;> simp [cum, hl])
theorem cum_13 (y : Int) : cum y 13 = if leapB y = true then 366 else 365 := by
  cases hl : leapB y <;> simp [cum, hl]
theorem cum_1 (y : Int) : cum y 1 = 0 := by
  cases hl : leapB y <;> simp [cum, hl]
theorem cum_nn {y m : Int} (h1 : 1 ≤ m) (h2 : m ≤ 12) : 0 ≤ cum y m := by
  rcases m12 h1 h2 with rfl | rfl | rfl | rfl | rfl | rfl | rfl | rfl | rfl | rfl | rfl | rfl <;> cases hl : leapB y <;> simp [cum, hl]
theorem num_in {y m d : Int} (h : Val y m d) : dby y < num y m d ∧ num y m d ≤ dby (y + 1) := by
  obtain ⟨⟨⟨h1, h2⟩, h3, h4⟩, h5, h6⟩ := h
  have a := cum_nn (y := y) h3 h4
  have b := cum_next (y := y) h3 h4
  have c := cum_13 y
  have e := dby_next y
  have f : cum y (m + 1) ≤ cum y 13 := by
    by_cases hm : m = 12
    · subst hm; exact Int.le_refl _
    · exact cum_mono (y := y) h3 (by omega) (by omega)
  unfold num
  omega
theorem num_bd {y m d : Int} (h : Val y m d) : 1 ≤ num y m d ∧ num y m d ≤ 3652059 := by
  have ⟨a, b⟩ := num_in h
  have ⟨⟨⟨h1, h2⟩, _⟩, _⟩ := h
  have c : dby (y + 1) ≤ dby 10000 := dby_mono (by omega)
  have e : dby 10000 = 3652059 := by decide
  have f : dby 1 ≤ dby y := by
    by_cases hy : y = 1
    · rw [hy]; omega
    · have := dby_mono (a := 0) (b := y) (by omega)
      simpa using this
  have g := dby_one
  omega
theorem e_cnum (n : Int) (st : Store) : f_check_number [.int n] st = if 1 ≤ n ∧ n ≤ 3652059 then .ok .non st else .ex "DayError" st := by
  unfold f_check_number b_check_number runB
  by_cases h1 : 1 ≤ n <;> by_cases h2 : n ≤ 3652059 <;> simp [dSeq, dIfS, dNot, dB, dChain, dC, dVar, dRet, dRetN, dNext, dAndV, dOrV, dNotV, dAnd, dOr, dIf, dTru, truD, dBin, dCons, dNil, dTup, dLst, mkL, dCall, dAsg, dAug, dPar, dgName, dgTup, dgCons, dgNil, dDrop, R.bind, R.s, R.b, aLe, aLt, aGt, aGe, aSub, aAdd, aMul, aFdiv, aMod, aEq, aNe, aIsN, aNotN, D.isNon, aAddI, aIx, L2.atI, L2.ixN, beqi, seqA, seqL, seqR, okEq, norm, D.isSc, D.isStr, D.dat, D.dats, D.dep, D.deps, D.eqv, D.eqvs, dRaise, dNeg, bSum, bAbs, bInt, bMax2, bMin2, bLen, intsD, dSl, aSl, dP, dNoP, okMul, fm, fd, h1, h2]
theorem fd146 (i : Int) : i.fdiv 146097 = i / 146097 := fd i
theorem e_date_bad (n : Int) (st : Store) (h : ¬ (1 ≤ n ∧ n ≤ 3652059)) : f_date_of [.int n] st = .ex "DayError" st := by
  unfold f_date_of b_date_of runB
  simp [dSeq, dIfS, dNot, dB, dChain, dC, dVar, dRet, dRetN, dNext, dAndV, dOrV, dNotV, dAnd, dOr, dIf, dTru, truD, dBin, dCons, dNil, dTup, dLst, mkL, dCall, dAsg, dAug, dPar, dgName, dgTup, dgCons, dgNil, dDrop, R.bind, R.s, R.b, aLe, aLt, aGt, aGe, aSub, aAdd, aMul, aFdiv, aMod, aEq, aNe, aIsN, aNotN, D.isNon, aAddI, aIx, L2.atI, L2.ixN, beqi, seqA, seqL, seqR, okEq, norm, D.isSc, D.isStr, D.dat, D.dats, D.dep, D.deps, D.eqv, D.eqvs, dRaise, dNeg, bSum, bAbs, bInt, bMax2, bMin2, bLen, intsD, dSl, aSl, dP, dNoP, okMul, fm, fd, e_cnum, h]
theorem max_1 (st : Store) (i : Int) : bMax2 [.int 1, .int i] st = .ok (.int (if i > 1 then i else 1)) st := by
  unfold bMax2
  rfl
theorem e_date_of {y m d : Int} (h : Val y m d) (st : Store) : f_date_of [.int (num y m d)] st = .ok (.tup [.int y, .int m, .int d]) st := by
  have hb := num_bd h
  have hi := num_in h
  have ⟨⟨hy, hm⟩, hd⟩ := h
  obtain ⟨n, hn⟩ : ∃ n, n = num y m d := ⟨_, rfl⟩
  rw [← hn] at hb hi ⊢
  have hl : n - dby y = cum y m + d := by rw [hn]; unfold num; omega
  have h0 : (n - 1) * 400 / 146097 ≤ y := by
    have := hi.2
    unfold dby at this
    omega
  obtain ⟨y0, q1, q2⟩ := dwhile_inv (ft := t_date_of_1) (fb := w_date_of_1) (st := st) (env := [some (.int n), some (.int (if (n - 1) * 400 / 146097 > 1 then (n - 1) * 400 / 146097 else 1)), none, none, none, none])
    (fun k : Int => [some (.int n), some (.int k), none, none, none, none]) (fun k => 1 ≤ k ∧ k ≤ y) (fun k => (y - k).toNat) (fun k => k = y) _ rfl ⟨by split <;> omega, by split <;> omega⟩ (by split <;> omega) (fun k hk => by
      by_cases e : k = y
      · left
        subst e
        refine ⟨?_, rfl⟩
        unfold t_date_of_1
        simp [dSeq, dIfS, dNot, dB, dChain, dC, dVar, dRet, dRetN, dNext, dAndV, dOrV, dNotV, dAnd, dOr, dIf, dTru, truD, dBin, dCons, dNil, dTup, dLst, mkL, dCall, dAsg, dAug, dPar, dgName, dgTup, dgCons, dgNil, dDrop, R.bind, R.s, R.b, aLe, aLt, aGt, aGe, aSub, aAdd, aMul, aFdiv, aMod, aEq, aNe, aIsN, aNotN, D.isNon, aAddI, aIx, L2.atI, L2.ixN, beqi, seqA, seqL, seqR, okEq, norm, D.isSc, D.isStr, D.dat, D.dats, D.dep, D.deps, D.eqv, D.eqvs, dRaise, dNeg, bSum, bAbs, bInt, bMax2, bMin2, bLen, intsD, dSl, aSl, dP, dNoP, okMul, fm, fd, e_dby]
        omega
      · right
        have := dby_mono (a := k) (b := y) (by omega)
        refine ⟨?_, k + 1, ?_, ⟨by omega, by omega⟩, by omega⟩
        · unfold t_date_of_1
          simp [dSeq, dIfS, dNot, dB, dChain, dC, dVar, dRet, dRetN, dNext, dAndV, dOrV, dNotV, dAnd, dOr, dIf, dTru, truD, dBin, dCons, dNil, dTup, dLst, mkL, dCall, dAsg, dAug, dPar, dgName, dgTup, dgCons, dgNil, dDrop, R.bind, R.s, R.b, aLe, aLt, aGt, aGe, aSub, aAdd, aMul, aFdiv, aMod, aEq, aNe, aIsN, aNotN, D.isNon, aAddI, aIx, L2.atI, L2.ixN, beqi, seqA, seqL, seqR, okEq, norm, D.isSc, D.isStr, D.dat, D.dats, D.dep, D.deps, D.eqv, D.eqvs, dRaise, dNeg, bSum, bAbs, bInt, bMax2, bMin2, bLen, intsD, dSl, aSl, dP, dNoP, okMul, fm, fd, e_dby]
          omega
        · unfold w_date_of_1
          simp [dSeq, dIfS, dNot, dB, dChain, dC, dVar, dRet, dRetN, dNext, dAndV, dOrV, dNotV, dAnd, dOr, dIf, dTru, truD, dBin, dCons, dNil, dTup, dLst, mkL, dCall, dAsg, dAug, dPar, dgName, dgTup, dgCons, dgNil, dDrop, R.bind, R.s, R.b, aLe, aLt, aGt, aGe, aSub, aAdd, aMul, aFdiv, aMod, aEq, aNe, aIsN, aNotN, D.isNon, aAddI, aIx, L2.atI, L2.ixN, beqi, seqA, seqL, seqR, okEq, norm, D.isSc, D.isStr, D.dat, D.dats, D.dep, D.deps, D.eqv, D.eqvs, dRaise, dNeg, bSum, bAbs, bInt, bMax2, bMin2, bLen, intsD, dSl, aSl, dP, dNoP, okMul, fm, fd])
  subst q2
  have hyl := v_is_leap y0 st
  rw [if_pos hy] at hyl
  obtain ⟨m0, q3, q4⟩ := dwhile_inv (ft := t_date_of_2) (fb := w_date_of_2) (st := st) (env := [some (.int n), some (.int y0), some (.int (n - dby y0)), some (.int 1), some (.bl (leapB y0)), some (.int 31)])
    (fun k : Int => [some (.int n), some (.int y0), some (.int (cum y0 m + d - cum y0 k)), some (.int k), some (.bl (leapB y0)), some (.int (dim y0 k))]) (fun k => 1 ≤ k ∧ k ≤ m) (fun k => (m - k).toNat) (fun k => k = m) 1 (by rw [hl, cum_1, show dim y0 1 = 31 by simp [dim, LT]]; simp) ⟨by omega, by omega⟩ (by omega) (fun k hk => by
      by_cases e : k = m
      · left
        subst e
        refine ⟨?_, rfl⟩
        unfold t_date_of_2
        simp [dSeq, dIfS, dNot, dB, dChain, dC, dVar, dRet, dRetN, dNext, dAndV, dOrV, dNotV, dAnd, dOr, dIf, dTru, truD, dBin, dCons, dNil, dTup, dLst, mkL, dCall, dAsg, dAug, dPar, dgName, dgTup, dgCons, dgNil, dDrop, R.bind, R.s, R.b, aLe, aLt, aGt, aGe, aSub, aAdd, aMul, aFdiv, aMod, aEq, aNe, aIsN, aNotN, D.isNon, aAddI, aIx, L2.atI, L2.ixN, beqi, seqA, seqL, seqR, okEq, norm, D.isSc, D.isStr, D.dat, D.dats, D.dep, D.deps, D.eqv, D.eqvs, dRaise, dNeg, bSum, bAbs, bInt, bMax2, bMin2, bLen, intsD, dSl, aSl, dP, dNoP, okMul, fm, fd]
        omega
      · right
        have a := cum_next (y := y0) (m := k) (by omega) (by omega)
        have b := cum_mono (y := y0) (k := k) (m := m) (by omega) (by omega) (by omega)
        refine ⟨?_, k + 1, ?_, ⟨by omega, by omega⟩, by omega⟩
        · unfold t_date_of_2
          simp [dSeq, dIfS, dNot, dB, dChain, dC, dVar, dRet, dRetN, dNext, dAndV, dOrV, dNotV, dAnd, dOr, dIf, dTru, truD, dBin, dCons, dNil, dTup, dLst, mkL, dCall, dAsg, dAug, dPar, dgName, dgTup, dgCons, dgNil, dDrop, R.bind, R.s, R.b, aLe, aLt, aGt, aGe, aSub, aAdd, aMul, aFdiv, aMod, aEq, aNe, aIsN, aNotN, D.isNon, aAddI, aIx, L2.atI, L2.ixN, beqi, seqA, seqL, seqR, okEq, norm, D.isSc, D.isStr, D.dat, D.dats, D.dep, D.deps, D.eqv, D.eqvs, dRaise, dNeg, bSum, bAbs, bInt, bMax2, bMin2, bLen, intsD, dSl, aSl, dP, dNoP, okMul, fm, fd]
          omega
        · unfold w_date_of_2
          have c : cum y0 m + d - cum y0 k - dim y0 k = cum y0 m + d - cum y0 (k + 1) := by omega
          have hk2 : k ≤ 11 := by omega
          simp [dSeq, dIfS, dNot, dB, dChain, dC, dVar, dRet, dRetN, dNext, dAndV, dOrV, dNotV, dAnd, dOr, dIf, dTru, truD, dBin, dCons, dNil, dTup, dLst, mkL, dCall, dAsg, dAug, dPar, dgName, dgTup, dgCons, dgNil, dDrop, R.bind, R.s, R.b, aLe, aLt, aGt, aGe, aSub, aAdd, aMul, aFdiv, aMod, aEq, aNe, aIsN, aNotN, D.isNon, aAddI, aIx, L2.atI, L2.ixN, beqi, seqA, seqL, seqR, okEq, norm, D.isSc, D.isStr, D.dat, D.dats, D.dep, D.deps, D.eqv, D.eqvs, dRaise, dNeg, bSum, bAbs, bInt, bMax2, bMin2, bLen, intsD, dSl, aSl, dP, dNoP, okMul, fm, fd, c]
          have hk3 : k = 1 ∨ k = 2 ∨ k = 3 ∨ k = 4 ∨ k = 5 ∨ k = 6 ∨ k = 7 ∨ k = 8 ∨ k = 9 ∨ k = 10 ∨ k = 11 := by omega
          rcases hk3 with rfl | rfl | rfl | rfl | rfl | rfl | rfl | rfl | rfl | rfl | rfl <;> cases hl : leapB y0 <;> simp [dSeq, dIfS, dNot, dB, dChain, dC, dVar, dRet, dRetN, dNext, dAndV, dOrV, dNotV, dAnd, dOr, dIf, dTru, truD, dBin, dCons, dNil, dTup, dLst, mkL, dCall, dAsg, dAug, dPar, dgName, dgTup, dgCons, dgNil, dDrop, R.bind, R.s, R.b, aLe, aLt, aGt, aGe, aSub, aAdd, aMul, aFdiv, aMod, aEq, aNe, aIsN, aNotN, D.isNon, aAddI, aIx, L2.atI, L2.ixN, beqi, seqA, seqL, seqR, okEq, norm, D.isSc, D.isStr, D.dat, D.dats, D.dep, D.deps, D.eqv, D.eqvs, dRaise, dNeg, bSum, bAbs, bInt, bMax2, bMin2, bLen, intsD, dSl, aSl, dP, dNoP, okMul, fm, fd, c_MONTH_LENGTHS, dim, LT, hl])
  subst q4
  unfold f_date_of b_date_of runB
  simp [dSeq, dIfS, dNot, dB, dChain, dC, dVar, dRet, dRetN, dNext, dAndV, dOrV, dNotV, dAnd, dOr, dIf, dTru, truD, dBin, dCons, dNil, dTup, dLst, mkL, dCall, dAsg, dAug, dPar, dgName, dgTup, dgCons, dgNil, dDrop, R.bind, R.s, R.b, aLe, aLt, aGt, aGe, aSub, aAdd, aMul, aFdiv, aMod, aEq, aNe, aIsN, aNotN, D.isNon, aAddI, aIx, L2.atI, L2.ixN, beqi, seqA, seqL, seqR, okEq, norm, D.isSc, D.isStr, D.dat, D.dats, D.dep, D.deps, D.eqv, D.eqvs, dRaise, dNeg, bSum, bAbs, bInt, bMax2, bMin2, bLen, intsD, dSl, aSl, dP, dNoP, okMul, fm, fd, e_cnum, hb, max_1, fd146, q1, e_dby, hyl, q3]
  omega
end K01

namespace K01
open PySem G
theorem fm7 (i : Int) : i.fmod 7 = i % 7 := fm i
theorem e_weekday (n : Int) (st : Store) (h : 1 ≤ n ∧ n ≤ 3652059) : f_weekday_of [.int n] st = .ok (.int ((n - 1) % 7)) st := by
  unfold f_weekday_of b_weekday_of runB
  simp [dSeq, dIfS, dNot, dB, dChain, dC, dVar, dRet, dRetN, dNext, dAndV, dOrV, dNotV, dAnd, dOr, dIf, dTru, truD, dBin, dCons, dNil, dTup, dLst, mkL, dCall, dAsg, dAug, dPar, dgName, dgTup, dgCons, dgNil, dDrop, R.bind, R.s, R.b, aLe, aLt, aGt, aGe, aSub, aAdd, aMul, aFdiv, aMod, aEq, aNe, aIsN, aNotN, D.isNon, aAddI, aIx, L2.atI, L2.ixN, beqi, seqA, seqL, seqR, okEq, norm, D.isSc, D.isStr, D.dat, D.dats, D.dep, D.deps, D.eqv, D.eqvs, dRaise, dNeg, bSum, bAbs, bInt, bMax2, bMin2, bLen, intsD, dSl, aSl, dP, dNoP, okMul, fm, fd, e_cnum, h, fm7]
theorem e_doy {y m d : Int} (h : Val y m d) (st : Store) : f_day_of_year [.tup [.int y, .int m, .int d]] st = .ok (.int (num y m d - dby y)) st := by
  unfold f_day_of_year b_day_of_year runB
  simp [dSeq, dIfS, dNot, dB, dChain, dC, dVar, dRet, dRetN, dNext, dAndV, dOrV, dNotV, dAnd, dOr, dIf, dTru, truD, dBin, dCons, dNil, dTup, dLst, mkL, dCall, dAsg, dAug, dPar, dgName, dgTup, dgCons, dgNil, dDrop, R.bind, R.s, R.b, aLe, aLt, aGt, aGe, aSub, aAdd, aMul, aFdiv, aMod, aEq, aNe, aIsN, aNotN, D.isNon, aAddI, aIx, L2.atI, L2.ixN, beqi, seqA, seqL, seqR, okEq, norm, D.isSc, D.isStr, D.dat, D.dats, D.dep, D.deps, D.eqv, D.eqvs, dRaise, dNeg, bSum, bAbs, bInt, bMax2, bMin2, bLen, intsD, dSl, aSl, dP, dNoP, okMul, fm, fd, e_num, h, e_dby]
theorem e_bydoy {y p : Int} (h : 1 ≤ y ∧ y ≤ 9999) (hp : 1 ≤ p ∧ p ≤ if leapB y = true then 366 else 365) (st : Store) : f_by_day_of_year [.int y, .int p] st = f_date_of [.int (dby y + p)] st := by
  unfold f_by_day_of_year b_by_day_of_year runB
  obtain ⟨h1, h2⟩ := hp
  cases hl : leapB y <;> simp [hl] at h2 <;> simp [dSeq, dIfS, dNot, dB, dChain, dC, dVar, dRet, dRetN, dNext, dAndV, dOrV, dNotV, dAnd, dOr, dIf, dTru, truD, dBin, dCons, dNil, dTup, dLst, mkL, dCall, dAsg, dAug, dPar, dgName, dgTup, dgCons, dgNil, dDrop, R.bind, R.s, R.b, aLe, aLt, aGt, aGe, aSub, aAdd, aMul, aFdiv, aMod, aEq, aNe, aIsN, aNotN, D.isNon, aAddI, aIx, L2.atI, L2.ixN, beqi, seqA, seqL, seqR, okEq, norm, D.isSc, D.isStr, D.dat, D.dats, D.dep, D.deps, D.eqv, D.eqvs, dRaise, dNeg, bSum, bAbs, bInt, bMax2, bMin2, bLen, intsD, dSl, aSl, dP, dNoP, okMul, fm, fd, v_is_leap, h, hl, h1, h2, e_dby] <;> (cases f_date_of [.int (dby y + p)] st <;> rfl)
theorem e_days_from {y m d y' m' d' : Int} (h : Val y m d) (h' : Val y' m' d') (st : Store) : f_days_from [.tup [.int y, .int m, .int d], .tup [.int y', .int m', .int d']] st = .ok (.int (num y' m' d' - num y m d)) st := by
  unfold f_days_from b_days_from runB
  simp [dSeq, dIfS, dNot, dB, dChain, dC, dVar, dRet, dRetN, dNext, dAndV, dOrV, dNotV, dAnd, dOr, dIf, dTru, truD, dBin, dCons, dNil, dTup, dLst, mkL, dCall, dAsg, dAug, dPar, dgName, dgTup, dgCons, dgNil, dDrop, R.bind, R.s, R.b, aLe, aLt, aGt, aGe, aSub, aAdd, aMul, aFdiv, aMod, aEq, aNe, aIsN, aNotN, D.isNon, aAddI, aIx, L2.atI, L2.ixN, beqi, seqA, seqL, seqR, okEq, norm, D.isSc, D.isStr, D.dat, D.dats, D.dep, D.deps, D.eqv, D.eqvs, dRaise, dNeg, bSum, bAbs, bInt, bMax2, bMin2, bLen, intsD, dSl, aSl, dP, dNoP, okMul, fm, fd, e_num, h, h']
theorem e_is_ahead {y m d y' m' d' : Int} (h : Val y m d) (h' : Val y' m' d') (st : Store) : f_is_ahead [.tup [.int y, .int m, .int d], .tup [.int y', .int m', .int d']] st = .ok (.bl (decide (num y m d < num y' m' d'))) st := by
  unfold f_is_ahead b_is_ahead runB
  simp [dSeq, dIfS, dNot, dB, dChain, dC, dVar, dRet, dRetN, dNext, dAndV, dOrV, dNotV, dAnd, dOr, dIf, dTru, truD, dBin, dCons, dNil, dTup, dLst, mkL, dCall, dAsg, dAug, dPar, dgName, dgTup, dgCons, dgNil, dDrop, R.bind, R.s, R.b, aLe, aLt, aGt, aGe, aSub, aAdd, aMul, aFdiv, aMod, aEq, aNe, aIsN, aNotN, D.isNon, aAddI, aIx, L2.atI, L2.ixN, beqi, seqA, seqL, seqR, okEq, norm, D.isSc, D.isStr, D.dat, D.dats, D.dep, D.deps, D.eqv, D.eqvs, dRaise, dNeg, bSum, bAbs, bInt, bMax2, bMin2, bLen, intsD, dSl, aSl, dP, dNoP, okMul, fm, fd, e_num, h, h']
theorem e_later {y m d : Int} (k : Int) (h : Val y m d) (st : Store) : f_later [.tup [.int y, .int m, .int d], .int k] st = f_date_of [.int (num y m d + k)] st := by
  unfold f_later b_later runB
  simp [dSeq, dIfS, dNot, dB, dChain, dC, dVar, dRet, dRetN, dNext, dAndV, dOrV, dNotV, dAnd, dOr, dIf, dTru, truD, dBin, dCons, dNil, dTup, dLst, mkL, dCall, dAsg, dAug, dPar, dgName, dgTup, dgCons, dgNil, dDrop, R.bind, R.s, R.b, aLe, aLt, aGt, aGe, aSub, aAdd, aMul, aFdiv, aMod, aEq, aNe, aIsN, aNotN, D.isNon, aAddI, aIx, L2.atI, L2.ixN, beqi, seqA, seqL, seqR, okEq, norm, D.isSc, D.isStr, D.dat, D.dats, D.dep, D.deps, D.eqv, D.eqvs, dRaise, dNeg, bSum, bAbs, bInt, bMax2, bMin2, bLen, intsD, dSl, aSl, dP, dNoP, okMul, fm, fd, e_num, h]
  cases f_date_of [.int (num y m d + k)] st <;> rfl
/-! the older calendar -/
def jdim (y m : Int) : Int := LT.getD (m - 1).toNat 0 + if m = 2 ∧ y % 4 = 0 then 1 else 0
def jcum (y m : Int) : Int := [0, 31, 59, 90, 120, 151, 181, 212, 243, 273, 304, 334, 365].getD (m - 1).toNat 0 + if 2 < m ∧ y % 4 = 0 then 1 else 0
def jby (y : Int) : Int := 365 * (y - 1) + (y - 1) / 4
def jnum (y m d : Int) : Int := jby y + jcum y m + d - 2
def JV (y m d : Int) : Prop := 1 ≤ y ∧ (1 ≤ m ∧ m ≤ 12) ∧ 1 ≤ d ∧ d ≤ jdim y m
theorem e_mlo {y m : Int} (h1 : 1 ≤ m) (h2 : m ≤ 12) (st : Store) : f_month_length_old [.int y, .int m] st = .ok (.int (jdim y m)) st := by
  unfold f_month_length_old b_month_length_old runB
  rcases m12 h1 h2 with rfl | rfl | rfl | rfl | rfl | rfl | rfl | rfl | rfl | rfl | rfl | rfl <;> by_cases hl : y % 4 = 0 <;> simp [dSeq, dIfS, dNot, dB, dChain, dC, dVar, dRet, dRetN, dNext, dAndV, dOrV, dNotV, dAnd, dOr, dIf, dTru, truD, dBin, dCons, dNil, dTup, dLst, mkL, dCall, dAsg, dAug, dPar, dgName, dgTup, dgCons, dgNil, dDrop, R.bind, R.s, R.b, aLe, aLt, aGt, aGe, aSub, aAdd, aMul, aFdiv, aMod, aEq, aNe, aIsN, aNotN, D.isNon, aAddI, aIx, L2.atI, L2.ixN, beqi, seqA, seqL, seqR, okEq, norm, D.isSc, D.isStr, D.dat, D.dats, D.dep, D.deps, D.eqv, D.eqvs, dRaise, dNeg, bSum, bAbs, bInt, bMax2, bMin2, bLen, intsD, dSl, aSl, dP, dNoP, okMul, fm, fd, fm4, hl, jdim, LT, c_MONTH_LENGTHS]
theorem jcum_next {y m : Int} (h1 : 1 ≤ m) (h2 : m ≤ 12) : jcum y (m + 1) = jcum y m + jdim y m := by
  rcases m12 h1 h2 with rfl | rfl | rfl | rfl | rfl | rfl | rfl | rfl | rfl | rfl | rfl | rfl <;> by_cases hl : y % 4 = 0 <;> simp [jcum, jdim, LT, hl]
theorem jdim_pos {y m : Int} (h1 : 1 ≤ m) (h2 : m ≤ 12) : 28 ≤ jdim y m ∧ jdim y m ≤ 31 := by
  rcases m12 h1 h2 with rfl | rfl | rfl | rfl | rfl | rfl | rfl | rfl | rfl | rfl | rfl | rfl <;> by_cases hl : y % 4 = 0 <;> simp [jdim, LT, hl]
theorem jcum_mono {y k m : Int} (h1 : 1 ≤ k) (h2 : k < m) (h3 : m ≤ 13) : jcum y (k + 1) ≤ jcum y m := by
  have h4 : k ≤ 12 := by omega
  have hm : m = 2 ∨ m = 3 ∨ m = 4 ∨ m = 5 ∨ m = 6 ∨ m = 7 ∨ m = 8 ∨ m = 9 ∨ m = 10 ∨ m = 11 ∨ m = 12 ∨ m = 13 := by omega
  rcases m12 h1 h4 with rfl | rfl | rfl | rfl | rfl | rfl | rfl | rfl | rfl | rfl | rfl | rfl <;>
  rcases hm with rfl | rfl | rfl | rfl | rfl | rfl | rfl | rfl | rfl | rfl | rfl | rfl <;> first | omega | (by_cases hl : y % 4 = 0 <;> simp [jcum, hl])
theorem jcum_13 (y : Int) : jcum y 13 = if y % 4 = 0 then 366 else 365 := by
  by_cases hl : y % 4 = 0 <;> simp [jcum, hl]
theorem jcum_1 (y : Int) : jcum y 1 = 0 := by
  by_cases hl : y % 4 = 0 <;> simp [jcum, hl]
theorem jcum_nn {y m : Int} (h1 : 1 ≤ m) (h2 : m ≤ 12) : 0 ≤ jcum y m := by
  rcases m12 h1 h2 with rfl | rfl | rfl | rfl | rfl | rfl | rfl | rfl | rfl | rfl | rfl | rfl <;> by_cases hl : y % 4 = 0 <;> simp [jcum, hl]
theorem jcum_in {y m d : Int} (h : JV y m d) : 0 ≤ jcum y m + d - 1 ∧ jcum y m + d - 1 < if y % 4 = 0 then 366 else 365 := by
  obtain ⟨h1, ⟨h3, h4⟩, h5, h6⟩ := h
  have a := jcum_nn (y := y) h3 h4
  have b := jcum_next (y := y) h3 h4
  have c := jcum_13 y
  have f : jcum y (m + 1) ≤ jcum y 13 := by
    by_cases hm : m = 12
    · subst hm; exact Int.le_refl _
    · exact jcum_mono (y := y) h3 (by omega) (by omega)
  omega
theorem e_old_number (y m d : Int) (st : Store) : f_old_number [.tup [.int y, .int m, .int d]] st = if y ≤ 9999 ∧ (1 ≤ y ∧ (1 ≤ m ∧ m ≤ 12) ∧ 1 ≤ d ∧ d ≤ jdim y m) ∧ 1 ≤ jnum y m d then .ok (.int (jnum y m d)) st else .ex "DayError" st := by
  unfold f_old_number b_old_number runB
  by_cases hy1 : 1 ≤ y
  · by_cases hy2 : y ≤ 9999
    · by_cases hm1 : 1 ≤ m
      · by_cases hm2 : m ≤ 12
        · by_cases hl : y % 4 = 0 <;> rcases m12 hm1 hm2 with hm | hm | hm | hm | hm | hm | hm | hm | hm | hm | hm | hm <;>
          (by_cases hd1 : 1 ≤ d
           · by_cases hd2 : d ≤ jdim y m
             · by_cases hf : jnum y m d < 1
               · have hg : ¬ 1 ≤ jnum y m d := Int.not_le.mpr hf
                 rw [if_neg (fun z => hg z.2.2)]
                 simp [jdim, LT, jnum, jby, jcum, hl, hm] at hd2 hf
                 simp [dSeq, dIfS, dNot, dB, dChain, dC, dVar, dRet, dRetN, dNext, dAndV, dOrV, dNotV, dAnd, dOr, dIf, dTru, truD, dBin, dCons, dNil, dTup, dLst, mkL, dCall, dAsg, dAug, dPar, dgName, dgTup, dgCons, dgNil, dDrop, R.bind, R.s, R.b, aLe, aLt, aGt, aGe, aSub, aAdd, aMul, aFdiv, aMod, aEq, aNe, aIsN, aNotN, D.isNon, aAddI, aIx, L2.atI, L2.ixN, beqi, seqA, seqL, seqR, okEq, norm, D.isSc, D.isStr, D.dat, D.dats, D.dep, D.deps, D.eqv, D.eqvs, dRaise, dNeg, bSum, bAbs, bInt, bMax2, bMin2, bLen, intsD, dSl, aSl, dP, dNoP, okMul, fm, fd, hy1, hy2, c_MOST_YEAR, c_MONTH_LENGTHS, HT.sIx, cutD, fm4, fd4, hm, hl, hd1, hd2, hf]
               · have hg : 1 ≤ jnum y m d := Int.not_lt.mp hf
                 rw [if_pos ⟨hy2, ⟨hy1, ⟨hm1, hm2⟩, hd1, hd2⟩, hg⟩]
                 simp [jdim, LT, jnum, jby, jcum, hl, hm] at hd2 hf
                 simp [dSeq, dIfS, dNot, dB, dChain, dC, dVar, dRet, dRetN, dNext, dAndV, dOrV, dNotV, dAnd, dOr, dIf, dTru, truD, dBin, dCons, dNil, dTup, dLst, mkL, dCall, dAsg, dAug, dPar, dgName, dgTup, dgCons, dgNil, dDrop, R.bind, R.s, R.b, aLe, aLt, aGt, aGe, aSub, aAdd, aMul, aFdiv, aMod, aEq, aNe, aIsN, aNotN, D.isNon, aAddI, aIx, L2.atI, L2.ixN, beqi, seqA, seqL, seqR, okEq, norm, D.isSc, D.isStr, D.dat, D.dats, D.dep, D.deps, D.eqv, D.eqvs, dRaise, dNeg, bSum, bAbs, bInt, bMax2, bMin2, bLen, intsD, dSl, aSl, dP, dNoP, okMul, fm, fd, hy1, hy2, c_MOST_YEAR, c_MONTH_LENGTHS, HT.sIx, cutD, fm4, fd4, hm, hl, hd1, hd2, Int.not_lt.mpr hf, jnum, jby, jcum]
             · rw [if_neg (fun z => hd2 z.2.1.2.2.2)]
               simp [jdim, LT, hl, hm] at hd2
               simp [dSeq, dIfS, dNot, dB, dChain, dC, dVar, dRet, dRetN, dNext, dAndV, dOrV, dNotV, dAnd, dOr, dIf, dTru, truD, dBin, dCons, dNil, dTup, dLst, mkL, dCall, dAsg, dAug, dPar, dgName, dgTup, dgCons, dgNil, dDrop, R.bind, R.s, R.b, aLe, aLt, aGt, aGe, aSub, aAdd, aMul, aFdiv, aMod, aEq, aNe, aIsN, aNotN, D.isNon, aAddI, aIx, L2.atI, L2.ixN, beqi, seqA, seqL, seqR, okEq, norm, D.isSc, D.isStr, D.dat, D.dats, D.dep, D.deps, D.eqv, D.eqvs, dRaise, dNeg, bSum, bAbs, bInt, bMax2, bMin2, bLen, intsD, dSl, aSl, dP, dNoP, okMul, fm, fd, hy1, hy2, c_MOST_YEAR, c_MONTH_LENGTHS, HT.sIx, cutD, fm4, fd4, hm, hl, hd1, hd2]
           · rw [if_neg (fun z => hd1 z.2.1.2.2.1)]
             simp [dSeq, dIfS, dNot, dB, dChain, dC, dVar, dRet, dRetN, dNext, dAndV, dOrV, dNotV, dAnd, dOr, dIf, dTru, truD, dBin, dCons, dNil, dTup, dLst, mkL, dCall, dAsg, dAug, dPar, dgName, dgTup, dgCons, dgNil, dDrop, R.bind, R.s, R.b, aLe, aLt, aGt, aGe, aSub, aAdd, aMul, aFdiv, aMod, aEq, aNe, aIsN, aNotN, D.isNon, aAddI, aIx, L2.atI, L2.ixN, beqi, seqA, seqL, seqR, okEq, norm, D.isSc, D.isStr, D.dat, D.dats, D.dep, D.deps, D.eqv, D.eqvs, dRaise, dNeg, bSum, bAbs, bInt, bMax2, bMin2, bLen, intsD, dSl, aSl, dP, dNoP, okMul, fm, fd, hy1, hy2, c_MOST_YEAR, c_MONTH_LENGTHS, fm4, hl, hm, hd1])
        · simp [dSeq, dIfS, dNot, dB, dChain, dC, dVar, dRet, dRetN, dNext, dAndV, dOrV, dNotV, dAnd, dOr, dIf, dTru, truD, dBin, dCons, dNil, dTup, dLst, mkL, dCall, dAsg, dAug, dPar, dgName, dgTup, dgCons, dgNil, dDrop, R.bind, R.s, R.b, aLe, aLt, aGt, aGe, aSub, aAdd, aMul, aFdiv, aMod, aEq, aNe, aIsN, aNotN, D.isNon, aAddI, aIx, L2.atI, L2.ixN, beqi, seqA, seqL, seqR, okEq, norm, D.isSc, D.isStr, D.dat, D.dats, D.dep, D.deps, D.eqv, D.eqvs, dRaise, dNeg, bSum, bAbs, bInt, bMax2, bMin2, bLen, intsD, dSl, aSl, dP, dNoP, okMul, fm, fd, hy1, hy2, hm1, hm2, c_MOST_YEAR]
      · simp [dSeq, dIfS, dNot, dB, dChain, dC, dVar, dRet, dRetN, dNext, dAndV, dOrV, dNotV, dAnd, dOr, dIf, dTru, truD, dBin, dCons, dNil, dTup, dLst, mkL, dCall, dAsg, dAug, dPar, dgName, dgTup, dgCons, dgNil, dDrop, R.bind, R.s, R.b, aLe, aLt, aGt, aGe, aSub, aAdd, aMul, aFdiv, aMod, aEq, aNe, aIsN, aNotN, D.isNon, aAddI, aIx, L2.atI, L2.ixN, beqi, seqA, seqL, seqR, okEq, norm, D.isSc, D.isStr, D.dat, D.dats, D.dep, D.deps, D.eqv, D.eqvs, dRaise, dNeg, bSum, bAbs, bInt, bMax2, bMin2, bLen, intsD, dSl, aSl, dP, dNoP, okMul, fm, fd, hy1, hy2, hm1, c_MOST_YEAR]
    · simp [dSeq, dIfS, dNot, dB, dChain, dC, dVar, dRet, dRetN, dNext, dAndV, dOrV, dNotV, dAnd, dOr, dIf, dTru, truD, dBin, dCons, dNil, dTup, dLst, mkL, dCall, dAsg, dAug, dPar, dgName, dgTup, dgCons, dgNil, dDrop, R.bind, R.s, R.b, aLe, aLt, aGt, aGe, aSub, aAdd, aMul, aFdiv, aMod, aEq, aNe, aIsN, aNotN, D.isNon, aAddI, aIx, L2.atI, L2.ixN, beqi, seqA, seqL, seqR, okEq, norm, D.isSc, D.isStr, D.dat, D.dats, D.dep, D.deps, D.eqv, D.eqvs, dRaise, dNeg, bSum, bAbs, bInt, bMax2, bMin2, bLen, intsD, dSl, aSl, dP, dNoP, okMul, fm, fd, hy1, hy2, c_MOST_YEAR]
  · simp [dSeq, dIfS, dNot, dB, dChain, dC, dVar, dRet, dRetN, dNext, dAndV, dOrV, dNotV, dAnd, dOr, dIf, dTru, truD, dBin, dCons, dNil, dTup, dLst, mkL, dCall, dAsg, dAug, dPar, dgName, dgTup, dgCons, dgNil, dDrop, R.bind, R.s, R.b, aLe, aLt, aGt, aGe, aSub, aAdd, aMul, aFdiv, aMod, aEq, aNe, aIsN, aNotN, D.isNon, aAddI, aIx, L2.atI, L2.ixN, beqi, seqA, seqL, seqR, okEq, norm, D.isSc, D.isStr, D.dat, D.dats, D.dep, D.deps, D.eqv, D.eqvs, dRaise, dNeg, bSum, bAbs, bInt, bMax2, bMin2, bLen, intsD, dSl, aSl, dP, dNoP, okMul, fm, fd, hy1, c_MOST_YEAR]
end K01

namespace K01
open PySem G
theorem fd1461 (i : Int) : i.fdiv 1461 = i / 1461 := fd i
theorem fm1461 (i : Int) : i.fmod 1461 = i % 1461 := fm i
theorem fd365 (i : Int) : i.fdiv 365 = i / 365 := fd i
theorem min_3 (st : Store) (i : Int) : bMin2 [.int i, .int 3] st = .ok (.int (if 3 < i then 3 else i)) st := by
  unfold bMin2
  rfl
theorem jyear (y r : Int) (h1 : 1 ≤ y) (h2 : 0 ≤ r) (h3 : r < if y % 4 = 0 then 366 else 365) : 4 * ((jby y + r) / 1461) + (if 3 < (jby y + r) % 1461 / 365 then 3 else (jby y + r) % 1461 / 365) + 1 = y := by
  have hr : r ≤ 365 := by split at h3 <;> omega
  obtain ⟨c, k, hk0, hk3, e⟩ : ∃ c k : Int, 0 ≤ k ∧ k ≤ 3 ∧ y - 1 = 4 * c + k := ⟨(y - 1) / 4, (y - 1) % 4, by omega, by omega, by omega⟩
  have ey : y = 4 * c + k + 1 := by omega
  subst ey
  have e1 : jby (4 * c + k + 1) + r = 1461 * c + (365 * k + r) := by unfold jby; omega
  have hr2 : k = 3 ∨ r < 365 := by
    by_cases hk : k = 3
    · exact .inl hk
    · right
      rw [if_neg (by omega)] at h3
      exact h3
  have hb : 0 ≤ 365 * k + r ∧ 365 * k + r < 1461 := by omega
  have e2 : (1461 * c + (365 * k + r)) / 1461 = c := by omega
  have e3 : (1461 * c + (365 * k + r)) % 1461 = 365 * k + r := by omega
  rw [e1, e2, e3]
  rcases hr2 with rfl | hr2
  · by_cases h : r < 365
    · have : (365 * 3 + r) / 365 = 3 := by omega
      rw [this]; simp
    · have : (365 * 3 + r) / 365 = 4 := by omega
      rw [this]; simp
  · have : (365 * k + r) / 365 = k := by omega
    rw [this, if_neg (by omega)]
theorem e_old_date {y m d : Int} (h : JV y m d) (hc : ∃ q, ∀ st, f_date_of [.int (jnum y m d)] st = .ok q st) (st : Store) : f_old_date [.int (jnum y m d)] st = .ok (.tup [.int y, .int m, .int d]) st := by
  have hi := jcum_in h
  have ⟨hy, hm, hd⟩ := h
  obtain ⟨q, hq⟩ := hc
  replace hq := hq st
  have e1 : jnum y m d + 1 = jby y + (jcum y m + d - 1) := by unfold jnum; omega
  have e2 := jyear y _ hy hi.1 hi.2
  have e3 : jby y + (jcum y m + d - 1) - 365 * (y - 1) - (y - 1) / 4 = jcum y m + d - 1 := by unfold jby; omega
  obtain ⟨n, hn⟩ : ∃ n, n = jnum y m d := ⟨_, rfl⟩
  rw [← hn] at hq e1 ⊢
  obtain ⟨m0, q3, q4⟩ := dwhile_inv (ft := t_old_date_1) (fb := w_old_date_1) (st := st) (env := [some (.int n), some (.int (jby y + (jcum y m + d - 1))), some (.int ((jby y + (jcum y m + d - 1)) / 1461)), some (.int (jcum y m + d - 1)), some (.int y), some (.int 1)])
    (fun k : Int => [some (.int n), some (.int (jby y + (jcum y m + d - 1))), some (.int ((jby y + (jcum y m + d - 1)) / 1461)), some (.int (jcum y m + d - 1 - jcum y k)), some (.int y), some (.int k)]) (fun k => 1 ≤ k ∧ k ≤ m) (fun k => (m - k).toNat) (fun k => k = m) 1 (by rw [jcum_1]; simp) ⟨by omega, by omega⟩ (by omega) (fun k hk => by
      have hml := fun st => e_mlo (y := y) (m := k) (by omega) (by omega) st
      by_cases e : k = m
      · left
        subst e
        refine ⟨?_, rfl⟩
        unfold t_old_date_1
        simp [dSeq, dIfS, dNot, dB, dChain, dC, dVar, dRet, dRetN, dNext, dAndV, dOrV, dNotV, dAnd, dOr, dIf, dTru, truD, dBin, dCons, dNil, dTup, dLst, mkL, dCall, dAsg, dAug, dPar, dgName, dgTup, dgCons, dgNil, dDrop, R.bind, R.s, R.b, aLe, aLt, aGt, aGe, aSub, aAdd, aMul, aFdiv, aMod, aEq, aNe, aIsN, aNotN, D.isNon, aAddI, aIx, L2.atI, L2.ixN, beqi, seqA, seqL, seqR, okEq, norm, D.isSc, D.isStr, D.dat, D.dats, D.dep, D.deps, D.eqv, D.eqvs, dRaise, dNeg, bSum, bAbs, bInt, bMax2, bMin2, bLen, intsD, dSl, aSl, dP, dNoP, okMul, fm, fd, hml]
        omega
      · right
        have a := jcum_next (y := y) (m := k) (by omega) (by omega)
        have b := jcum_mono (y := y) (k := k) (m := m) (by omega) (by omega) (by omega)
        refine ⟨?_, k + 1, ?_, ⟨by omega, by omega⟩, by omega⟩
        · unfold t_old_date_1
          simp [dSeq, dIfS, dNot, dB, dChain, dC, dVar, dRet, dRetN, dNext, dAndV, dOrV, dNotV, dAnd, dOr, dIf, dTru, truD, dBin, dCons, dNil, dTup, dLst, mkL, dCall, dAsg, dAug, dPar, dgName, dgTup, dgCons, dgNil, dDrop, R.bind, R.s, R.b, aLe, aLt, aGt, aGe, aSub, aAdd, aMul, aFdiv, aMod, aEq, aNe, aIsN, aNotN, D.isNon, aAddI, aIx, L2.atI, L2.ixN, beqi, seqA, seqL, seqR, okEq, norm, D.isSc, D.isStr, D.dat, D.dats, D.dep, D.deps, D.eqv, D.eqvs, dRaise, dNeg, bSum, bAbs, bInt, bMax2, bMin2, bLen, intsD, dSl, aSl, dP, dNoP, okMul, fm, fd, hml]
          omega
        · unfold w_old_date_1
          simp [dSeq, dIfS, dNot, dB, dChain, dC, dVar, dRet, dRetN, dNext, dAndV, dOrV, dNotV, dAnd, dOr, dIf, dTru, truD, dBin, dCons, dNil, dTup, dLst, mkL, dCall, dAsg, dAug, dPar, dgName, dgTup, dgCons, dgNil, dDrop, R.bind, R.s, R.b, aLe, aLt, aGt, aGe, aSub, aAdd, aMul, aFdiv, aMod, aEq, aNe, aIsN, aNotN, D.isNon, aAddI, aIx, L2.atI, L2.ixN, beqi, seqA, seqL, seqR, okEq, norm, D.isSc, D.isStr, D.dat, D.dats, D.dep, D.deps, D.eqv, D.eqvs, dRaise, dNeg, bSum, bAbs, bInt, bMax2, bMin2, bLen, intsD, dSl, aSl, dP, dNoP, okMul, fm, fd, hml]
          omega)
  subst q4
  unfold f_old_date b_old_date runB
  simp [dSeq, dIfS, dNot, dB, dChain, dC, dVar, dRet, dRetN, dNext, dAndV, dOrV, dNotV, dAnd, dOr, dIf, dTru, truD, dBin, dCons, dNil, dTup, dLst, mkL, dCall, dAsg, dAug, dPar, dgName, dgTup, dgCons, dgNil, dDrop, R.bind, R.s, R.b, aLe, aLt, aGt, aGe, aSub, aAdd, aMul, aFdiv, aMod, aEq, aNe, aIsN, aNotN, D.isNon, aAddI, aIx, L2.atI, L2.ixN, beqi, seqA, seqL, seqR, okEq, norm, D.isSc, D.isStr, D.dat, D.dats, D.dep, D.deps, D.eqv, D.eqvs, dRaise, dNeg, bSum, bAbs, bInt, bMax2, bMin2, bLen, intsD, dSl, aSl, dP, dNoP, okMul, fm, fd, hq, e1, fd1461, fm1461, fd365, min_3, e2, e3, fd4, q3]
  omega
/-! the law's own -/
theorem e_lleap (y : Int) (o : Bool) (st : Store) : f__law_leap [.int y, .bl o] st = .ok (.bl (if o = true then decide (y % 4 = 0) else leapB y)) st := by
  unfold f__law_leap b__law_leap runB leapB
  have h0 : (0 < y % 100) ↔ ¬ y % 100 = 0 := by omega
  cases o <;> by_cases h1 : y % 4 = 0 <;> by_cases h2 : y % 100 = 0 <;> by_cases h3 : y % 400 = 0 <;> simp [dSeq, dIfS, dNot, dB, dChain, dC, dVar, dRet, dRetN, dNext, dAndV, dOrV, dNotV, dAnd, dOr, dIf, dTru, truD, dBin, dCons, dNil, dTup, dLst, mkL, dCall, dAsg, dAug, dPar, dgName, dgTup, dgCons, dgNil, dDrop, R.bind, R.s, R.b, aLe, aLt, aGt, aGe, aSub, aAdd, aMul, aFdiv, aMod, aEq, aNe, aIsN, aNotN, D.isNon, aAddI, aIx, L2.atI, L2.ixN, beqi, seqA, seqL, seqR, okEq, norm, D.isSc, D.isStr, D.dat, D.dats, D.dep, D.deps, D.eqv, D.eqvs, dRaise, dNeg, bSum, bAbs, bInt, bMax2, bMin2, bLen, intsD, dSl, aSl, dP, dNoP, okMul, fm, fd, fm4, fm100, fm400, h0, h1, h2, h3]
theorem e_llong (y m : Int) (o : Bool) (st : Store) (h1 : 1 ≤ m) (h2 : m ≤ 12) : f__law_long [.int y, .int m, .bl o] st = .ok (.int (if o = true then jdim y m else dim y m)) st := by
  unfold f__law_long b__law_long runB
  cases o
  · cases hl : leapB y <;> rcases m12 h1 h2 with rfl | rfl | rfl | rfl | rfl | rfl | rfl | rfl | rfl | rfl | rfl | rfl <;> simp [dSeq, dIfS, dNot, dB, dChain, dC, dVar, dRet, dRetN, dNext, dAndV, dOrV, dNotV, dAnd, dOr, dIf, dTru, truD, dBin, dCons, dNil, dTup, dLst, mkL, dCall, dAsg, dAug, dPar, dgName, dgTup, dgCons, dgNil, dDrop, R.bind, R.s, R.b, aLe, aLt, aGt, aGe, aSub, aAdd, aMul, aFdiv, aMod, aEq, aNe, aIsN, aNotN, D.isNon, aAddI, aIx, L2.atI, L2.ixN, beqi, seqA, seqL, seqR, okEq, norm, D.isSc, D.isStr, D.dat, D.dats, D.dep, D.deps, D.eqv, D.eqvs, dRaise, dNeg, bSum, bAbs, bInt, bMax2, bMin2, bLen, intsD, dSl, aSl, dP, dNoP, okMul, fm, fd, e_lleap, hl, dim, LT]
  · by_cases hl : y % 4 = 0 <;> rcases m12 h1 h2 with rfl | rfl | rfl | rfl | rfl | rfl | rfl | rfl | rfl | rfl | rfl | rfl <;> simp [dSeq, dIfS, dNot, dB, dChain, dC, dVar, dRet, dRetN, dNext, dAndV, dOrV, dNotV, dAnd, dOr, dIf, dTru, truD, dBin, dCons, dNil, dTup, dLst, mkL, dCall, dAsg, dAug, dPar, dgName, dgTup, dgCons, dgNil, dDrop, R.bind, R.s, R.b, aLe, aLt, aGt, aGe, aSub, aAdd, aMul, aFdiv, aMod, aEq, aNe, aIsN, aNotN, D.isNon, aAddI, aIx, L2.atI, L2.ixN, beqi, seqA, seqL, seqR, okEq, norm, D.isSc, D.isStr, D.dat, D.dats, D.dep, D.deps, D.eqv, D.eqvs, dRaise, dNeg, bSum, bAbs, bInt, bMax2, bMin2, bLen, intsD, dSl, aSl, dP, dNoP, okMul, fm, fd, e_lleap, hl, jdim, LT]
end K01

namespace K01
open PySem G
theorem lstAt_set {st : Store} {n : Nat} {ds es : List D} (h : lstAt st n = some ds) : lstAt (st.set n (.lst es)) n = some es := by
  unfold lstAt at h ⊢
  have hn : n < st.length := by
    cases q : st[n]? with
    | none => rw [q] at h; cases h
    | some o => exact (List.getElem?_eq_some_iff.mp q).1
  rw [List.getElem?_set_self hn]
theorem roll_in (i many : Int) (h : 1 ≤ many) : 0 ≤ i.fmod many ∧ i.fmod many < many := ⟨Int.fmod_nonneg_of_pos i (by omega), Int.fmod_lt_of_pos i (by omega)⟩
theorem e_roll {st : Store} {n : Nat} {a b c : Int} (many : Int) (hs : lstAt st n = some [.int a, .int b, .int c]) (h1 : 1 ≤ many) (h2 : many ≤ 100000000) :
    ∃ r a' b' c' : Int, 0 ≤ r ∧ r < many ∧ f__law_roll [.ref n, .int many] st = .ok (.int r) (st.set n (.lst [.int a', .int b', .int c'])) := by
  have h3 : many ≠ 0 := by omega
  have h4 : many.natAbs < 1073741824 := by omega
  have h5 : ¬ 100000000 < many := by omega
  have hsn : ∀ es, lstAt (st.set n (.lst es)) n = some es := fun es => lstAt_set hs
  by_cases hc : c = 2 ∨ (c = 1 ∧ 0 < a)
  · refine ⟨a.fmod many, a.fdiv many, b, c, (roll_in a many h1).1, (roll_in a many h1).2, ?_⟩
    show runB 3 (b__law_roll (r__law_roll 3)) _ _ = _
    unfold b__law_roll runB
    rcases hc with rfl | ⟨rfl, h⟩
    · simp [dSeq, dIfS, dNot, dB, dChain, dC, dVar, dRet, dRetN, dNext, dAndV, dOrV, dNotV, dAnd, dOr, dIf, dTru, truD, dBin, dCons, dNil, dTup, dLst, mkL, dCall, dAsg, dAug, dPar, dgName, dgTup, dgCons, dgNil, dDrop, R.bind, R.s, R.b, aLe, aLt, aGt, aGe, aSub, aAdd, aMul, aFdiv, aMod, aEq, aNe, aIsN, aNotN, D.isNon, aAddI, aIx, L2.atI, L2.ixN, beqi, seqA, seqL, seqR, okEq, norm, D.isSc, D.isStr, D.dat, D.dats, D.dep, D.deps, D.eqv, D.eqvs, dRaise, dNeg, bSum, bAbs, bInt, bMax2, bMin2, bLen, intsD, dSl, aSl, dP, dNoP, okMul, fm, fd, setAt, dSetL, hs, h3, h4]
    · simp [dSeq, dIfS, dNot, dB, dChain, dC, dVar, dRet, dRetN, dNext, dAndV, dOrV, dNotV, dAnd, dOr, dIf, dTru, truD, dBin, dCons, dNil, dTup, dLst, mkL, dCall, dAsg, dAug, dPar, dgName, dgTup, dgCons, dgNil, dDrop, R.bind, R.s, R.b, aLe, aLt, aGt, aGe, aSub, aAdd, aMul, aFdiv, aMod, aEq, aNe, aIsN, aNotN, D.isNon, aAddI, aIx, L2.atI, L2.ixN, beqi, seqA, seqL, seqR, okEq, norm, D.isSc, D.isStr, D.dat, D.dats, D.dep, D.deps, D.eqv, D.eqvs, dRaise, dNeg, bSum, bAbs, bInt, bMax2, bMin2, bLen, intsD, dSl, aSl, dP, dNoP, okMul, fm, fd, setAt, dSetL, hs, h3, h4, h]
  · refine ⟨((a * 48271 + b * 69621 + 11).fmod 2147483647 / 7).fmod many, (a * 48271 + b * 69621 + 11).fmod 2147483647, b + 1, 0, (roll_in _ many h1).1, (roll_in _ many h1).2, ?_⟩
    show runB 3 (b__law_roll (r__law_roll 3)) _ _ = _
    unfold b__law_roll runB
    have e7 : ∀ i : Int, i.fdiv 7 = i / 7 := fun i => fd i
    have hcc : c ≠ 2 := fun z => hc (.inl z)
    by_cases hc1 : c = 1
    · have ha : ¬ 0 < a := fun z => hc (.inr ⟨hc1, z⟩)
      subst hc1
      simp [dSeq, dIfS, dNot, dB, dChain, dC, dVar, dRet, dRetN, dNext, dAndV, dOrV, dNotV, dAnd, dOr, dIf, dTru, truD, dBin, dCons, dNil, dTup, dLst, mkL, dCall, dAsg, dAug, dPar, dgName, dgTup, dgCons, dgNil, dDrop, R.bind, R.s, R.b, aLe, aLt, aGt, aGe, aSub, aAdd, aMul, aFdiv, aMod, aEq, aNe, aIsN, aNotN, D.isNon, aAddI, aIx, L2.atI, L2.ixN, beqi, seqA, seqL, seqR, okEq, norm, D.isSc, D.isStr, D.dat, D.dats, D.dep, D.deps, D.eqv, D.eqvs, dRaise, dNeg, bSum, bAbs, bInt, bMax2, bMin2, bLen, intsD, dSl, aSl, dP, dNoP, okMul, fm, fd, setAt, dSetL, hs, hsn, h3, h4, h5, ha, e7]
    · simp [dSeq, dIfS, dNot, dB, dChain, dC, dVar, dRet, dRetN, dNext, dAndV, dOrV, dNotV, dAnd, dOr, dIf, dTru, truD, dBin, dCons, dNil, dTup, dLst, mkL, dCall, dAsg, dAug, dPar, dgName, dgTup, dgCons, dgNil, dDrop, R.bind, R.s, R.b, aLe, aLt, aGt, aGe, aSub, aAdd, aMul, aFdiv, aMod, aEq, aNe, aIsN, aNotN, D.isNon, aAddI, aIx, L2.atI, L2.ixN, beqi, seqA, seqL, seqR, okEq, norm, D.isSc, D.isStr, D.dat, D.dats, D.dep, D.deps, D.eqv, D.eqvs, dRaise, dNeg, bSum, bAbs, bInt, bMax2, bMin2, bLen, intsD, dSl, aSl, dP, dNoP, okMul, fm, fd, setAt, dSetL, hs, hsn, h3, h4, h5, hcc, hc1, e7]
end K01

namespace K01
open PySem G
theorem rangeD_nil {lo hi : Int} (h : hi ≤ lo) : rangeD lo hi = [] := by
  unfold rangeD
  rw [Int.toNat_of_nonpos (by omega)]
  rfl
theorem rangeD_cons {lo hi : Int} (h : lo < hi) : rangeD lo hi = .int lo :: rangeD (lo + 1) hi := by
  unfold rangeD
  obtain ⟨k, hk⟩ : ∃ k : Nat, (hi - lo).toNat = k + 1 := ⟨(hi - lo).toNat - 1, by omega⟩
  rw [hk, show (hi - (lo + 1)).toNat = k by omega, List.range_succ_eq_map]
  simp
  intro a _
  omega
theorem forR {i : Nat} {fb : DS} {st : Store} {hi : Int} (e : Int → Option D → G.Env) (hset : ∀ k o, (e k o).set i (some (.int k)) = e k (some (.int k))) :
    ∀ (f : Nat) (lo : Int) (o : Option D), (hi - lo).toNat ≤ f → (∀ k, lo ≤ k → k < hi → fb (e k (some (.int k))) st = .nx (e (k + 1) (some (.int k))) st) → lo ≤ hi → ∃ o', forD (dgName i) fb none (rangeD lo hi) (e lo o) st = .nx (e hi o') st
  | f, lo, o, hf, h, hl => by
    by_cases e1 : lo = hi
    · subst e1
      exact ⟨o, by rw [rangeD_nil (Int.le_refl _)]; simp [forD, gdOk]⟩
    · match f, hf with
      | 0, hf => omega
      | f + 1, hf =>
        obtain ⟨o', q⟩ := forR e hset f (lo + 1) (some (.int lo)) (by omega) (fun k h1 h2 => h k (by omega) h2) (by omega)
        exact ⟨o', by rw [rangeD_cons (by omega)]; simp [forD, gdOk, dgName, hset, h lo (Int.le_refl _) (by omega), loopK, q]⟩
theorem lcR {i : Nat} {fe : DE} {env : G.Env} {st : Store} {hi : Int} {v : Int → D} : ∀ (f : Nat) (lo : Int), (hi - lo).toNat ≤ f → (∀ k, lo ≤ k → k < hi → fe (env.set i (some (.int k))) st = .ok (v k) st) →
    lcD (dgName i) dYes fe none (rangeD lo hi) env st = .ok ((List.range (hi - lo).toNat).map fun j => v (lo + (j : Nat))) st
  | f, lo, hf, h => by
    by_cases e1 : hi ≤ lo
    · rw [rangeD_nil e1, Int.toNat_of_nonpos (by omega)]
      simp [lcD, gdOk]
    · match f, hf with
      | 0, hf => omega
      | f + 1, hf =>
        have q := lcR (v := v) f (lo + 1) (by omega) (fun k h1 h2 => h k (by omega) h2)
        rw [rangeD_cons (by omega)]
        obtain ⟨k, hk⟩ : ∃ k : Nat, (hi - lo).toNat = k + 1 := ⟨(hi - lo).toNat - 1, by omega⟩
        rw [hk, List.range_succ_eq_map]
        rw [show (hi - (lo + 1)).toNat = k by omega] at q
        simp [lcD, gdOk, dgName, dYes, R.b, h lo (Int.le_refl _) (by omega), q]
        intro a _
        rw [show lo + 1 + (a : Int) = lo + ((a : Int) + 1) by omega]
theorem range_len (lo hi : Int) : (rangeD lo hi).length = (hi - lo).toNat := by
  unfold rangeD
  simp
theorem e_lnumber {y m d : Int} (hy : 1 ≤ y) (hy2 : y ≤ 100000) (h1 : 1 ≤ m) (h2 : m ≤ 12) (st : Store) : f__law_number [.tup [.int y, .int m, .int d]] st = .ok (.int (num y m d)) st := by
  obtain ⟨c, hc⟩ : ∃ c, c = (y - 1) / 400 := ⟨_, rfl⟩
  have hb1 : dby (c * 400 + 1) = c * 146097 := by unfold dby; omega
  have hlo : c * 400 + 1 ≤ y := by omega
  obtain ⟨o, q⟩ := forR (i := 5) (fb := l__law_number_1) (st := st) (hi := y) (fun k o => [some (.tup [.int y, .int m, .int d]), some (.int y), some (.int m), some (.int d), some (.int (dby k)), o]) (fun k o => rfl) _ (c * 400 + 1) none (Nat.le_refl _) (fun k _ _ => by
    unfold l__law_number_1
    cases hl : leapB k <;> simp [dSeq, dIfS, dNot, dB, dChain, dC, dVar, dRet, dRetN, dNext, dAndV, dOrV, dNotV, dAnd, dOr, dIf, dTru, truD, dBin, dCons, dNil, dTup, dLst, mkL, dCall, dAsg, dAug, dPar, dgName, dgTup, dgCons, dgNil, dDrop, R.bind, R.s, R.b, aLe, aLt, aGt, aGe, aSub, aAdd, aMul, aFdiv, aMod, aEq, aNe, aIsN, aNotN, D.isNon, aAddI, aIx, L2.atI, L2.ixN, beqi, seqA, seqL, seqR, okEq, norm, D.isSc, D.isStr, D.dat, D.dats, D.dep, D.deps, D.eqv, D.eqvs, dRaise, dNeg, bSum, bAbs, bInt, bMax2, bMin2, bLen, intsD, dSl, aSl, dP, dNoP, okMul, fm, fd, e_lleap, hl, dby_next]) hlo
  have q2 := lcR (i := 5) (fe := y__law_number_1) (env := [some (.tup [.int y, .int m, .int d]), some (.int y), some (.int m), some (.int d), some (.int (dby y)), none]) (st := st) (hi := m) (v := fun k => .int (dim y k)) _ 1 (Nat.le_refl _) (fun k hk1 hk2 => by
    unfold y__law_number_1
    simp [dSeq, dIfS, dNot, dB, dChain, dC, dVar, dRet, dRetN, dNext, dAndV, dOrV, dNotV, dAnd, dOr, dIf, dTru, truD, dBin, dCons, dNil, dTup, dLst, mkL, dCall, dAsg, dAug, dPar, dgName, dgTup, dgCons, dgNil, dDrop, R.bind, R.s, R.b, aLe, aLt, aGt, aGe, aSub, aAdd, aMul, aFdiv, aMod, aEq, aNe, aIsN, aNotN, D.isNon, aAddI, aIx, L2.atI, L2.ixN, beqi, seqA, seqL, seqR, okEq, norm, D.isSc, D.isStr, D.dat, D.dats, D.dep, D.deps, D.eqv, D.eqvs, dRaise, dNeg, bSum, bAbs, bInt, bMax2, bMin2, bLen, intsD, dSl, aSl, dP, dNoP, okMul, fm, fd, e_llong y k false st hk1 (by omega)])
  have b1 : bnd (c * 400 + 1) = true := by unfold bnd; simp; omega
  have b2 : bnd y = true := by unfold bnd; simp; omega
  have b3 : bnd m = true := by unfold bnd; simp; omega
  have hm : m ≤ 16777217 := by omega
  have q3 : bSum [.lst (List.map (fun j : Nat => D.int (dim y (1 + j))) (List.range (m.toNat - 1)))] st = .ok (.int (cum y m)) st := by
    unfold bSum
    rcases m12 h1 h2 with rfl | rfl | rfl | rfl | rfl | rfl | rfl | rfl | rfl | rfl | rfl | rfl <;> cases hl : leapB y <;> simp [seqA, seqL, intsD, List.range, List.range.loop, dim, LT, hl, cum]
  unfold f__law_number b__law_number runB
  simp [dSeq, dIfS, dNot, dB, dChain, dC, dVar, dRet, dRetN, dNext, dAndV, dOrV, dNotV, dAnd, dOr, dIf, dTru, truD, dBin, dCons, dNil, dTup, dLst, mkL, dCall, dAsg, dAug, dPar, dgName, dgTup, dgCons, dgNil, dDrop, R.bind, R.s, R.b, aLe, aLt, aGt, aGe, aSub, aAdd, aMul, aFdiv, aMod, aEq, aNe, aIsN, aNotN, D.isNon, aAddI, aIx, L2.atI, L2.ixN, beqi, seqA, seqL, seqR, okEq, norm, D.isSc, D.isStr, D.dat, D.dats, D.dep, D.deps, D.eqv, D.eqvs, dRaise, dNeg, bAbs, bInt, bMax2, bMin2, bLen, intsD, dSl, aSl, dP, dNoP, okMul, fm, fd, fd400, ← hc, dFor, dRng2, b1, b2, b3, ← hb1, q, dLc, show bnd 1 = true by decide, range_len, wipeE, q2, hm, q3]
  simp [num]
end K01

namespace K01
open PySem G
theorem jby_next (y : Int) : jby (y + 1) = jby y + if y % 4 = 0 then 366 else 365 := by
  unfold jby
  by_cases h1 : y % 4 = 0 <;> simp [h1] <;> omega
theorem e_lold {y m d : Int} (hy : 1 ≤ y) (hy2 : y ≤ 100000) (h1 : 1 ≤ m) (h2 : m ≤ 12) (st : Store) : f__law_old [.tup [.int y, .int m, .int d]] st = .ok (.int (jnum y m d)) st := by
  obtain ⟨c, hc⟩ : ∃ c, c = (y - 1) / 4 := ⟨_, rfl⟩
  have hb1 : jby (c * 4 + 1) = c * 1461 := by unfold jby; omega
  have hlo : c * 4 + 1 ≤ y := by omega
  obtain ⟨o, q⟩ := forR (i := 5) (fb := l__law_old_1) (st := st) (hi := y) (fun k o => [some (.tup [.int y, .int m, .int d]), some (.int y), some (.int m), some (.int d), some (.int (jby k)), o]) (fun k o => rfl) _ (c * 4 + 1) none (Nat.le_refl _) (fun k _ _ => by
    unfold l__law_old_1
    by_cases hl : k % 4 = 0 <;> simp [dSeq, dIfS, dNot, dB, dChain, dC, dVar, dRet, dRetN, dNext, dAndV, dOrV, dNotV, dAnd, dOr, dIf, dTru, truD, dBin, dCons, dNil, dTup, dLst, mkL, dCall, dAsg, dAug, dPar, dgName, dgTup, dgCons, dgNil, dDrop, R.bind, R.s, R.b, aLe, aLt, aGt, aGe, aSub, aAdd, aMul, aFdiv, aMod, aEq, aNe, aIsN, aNotN, D.isNon, aAddI, aIx, L2.atI, L2.ixN, beqi, seqA, seqL, seqR, okEq, norm, D.isSc, D.isStr, D.dat, D.dats, D.dep, D.deps, D.eqv, D.eqvs, dRaise, dNeg, bSum, bAbs, bInt, bMax2, bMin2, bLen, intsD, dSl, aSl, dP, dNoP, okMul, fm, fd, e_lleap, hl, jby_next]) hlo
  have q2 := lcR (i := 5) (fe := y__law_old_1) (env := [some (.tup [.int y, .int m, .int d]), some (.int y), some (.int m), some (.int d), some (.int (jby y)), none]) (st := st) (hi := m) (v := fun k => .int (jdim y k)) _ 1 (Nat.le_refl _) (fun k hk1 hk2 => by
    unfold y__law_old_1
    simp [dSeq, dIfS, dNot, dB, dChain, dC, dVar, dRet, dRetN, dNext, dAndV, dOrV, dNotV, dAnd, dOr, dIf, dTru, truD, dBin, dCons, dNil, dTup, dLst, mkL, dCall, dAsg, dAug, dPar, dgName, dgTup, dgCons, dgNil, dDrop, R.bind, R.s, R.b, aLe, aLt, aGt, aGe, aSub, aAdd, aMul, aFdiv, aMod, aEq, aNe, aIsN, aNotN, D.isNon, aAddI, aIx, L2.atI, L2.ixN, beqi, seqA, seqL, seqR, okEq, norm, D.isSc, D.isStr, D.dat, D.dats, D.dep, D.deps, D.eqv, D.eqvs, dRaise, dNeg, bSum, bAbs, bInt, bMax2, bMin2, bLen, intsD, dSl, aSl, dP, dNoP, okMul, fm, fd, e_llong y k true st hk1 (by omega)])
  have b1 : bnd (c * 4 + 1) = true := by unfold bnd; simp; omega
  have b2 : bnd y = true := by unfold bnd; simp; omega
  have b3 : bnd m = true := by unfold bnd; simp; omega
  have hm : m ≤ 16777217 := by omega
  have q3 : bSum [.lst (List.map (fun j : Nat => D.int (jdim y (1 + j))) (List.range (m.toNat - 1)))] st = .ok (.int (jcum y m)) st := by
    unfold bSum
    rcases m12 h1 h2 with rfl | rfl | rfl | rfl | rfl | rfl | rfl | rfl | rfl | rfl | rfl | rfl <;> by_cases hl : y % 4 = 0 <;> simp [seqA, seqL, intsD, List.range, List.range.loop, jdim, LT, hl, jcum]
  unfold f__law_old b__law_old runB
  simp [dSeq, dIfS, dNot, dB, dChain, dC, dVar, dRet, dRetN, dNext, dAndV, dOrV, dNotV, dAnd, dOr, dIf, dTru, truD, dBin, dCons, dNil, dTup, dLst, mkL, dCall, dAsg, dAug, dPar, dgName, dgTup, dgCons, dgNil, dDrop, R.bind, R.s, R.b, aLe, aLt, aGt, aGe, aSub, aAdd, aMul, aFdiv, aMod, aEq, aNe, aIsN, aNotN, D.isNon, aAddI, aIx, L2.atI, L2.ixN, beqi, seqA, seqL, seqR, okEq, norm, D.isSc, D.isStr, D.dat, D.dats, D.dep, D.deps, D.eqv, D.eqvs, dRaise, dNeg, bAbs, bInt, bMax2, bMin2, bLen, intsD, dSl, aSl, dP, dNoP, okMul, fm, fd, fd4, ← hc, dFor, dRng2, b1, b2, b3, ← hb1, q, dLc, show bnd 1 = true by decide, range_len, wipeE, q2, hm, q3]
  simp [jnum]
/-- the next day -/
def nxt (o : Bool) (y m d : Int) : Int × Int × Int := if d < (if o = true then jdim y m else dim y m) then (y, m, d + 1) else if m < 12 then (y, m + 1, 1) else (y + 1, 1, 1)
def tupD (p : Int × Int × Int) : D := .tup [.int p.1, .int p.2.1, .int p.2.2]
theorem e_lnext (y m d : Int) (o : Bool) (st : Store) (h1 : 1 ≤ m) (h2 : m ≤ 12) : f__law_next [.tup [.int y, .int m, .int d], .bl o] st = .ok (tupD (nxt o y m d)) st := by
  unfold f__law_next b__law_next runB nxt tupD
  by_cases h3 : d < (if o = true then jdim y m else dim y m)
  · simp [dSeq, dIfS, dNot, dB, dChain, dC, dVar, dRet, dRetN, dNext, dAndV, dOrV, dNotV, dAnd, dOr, dIf, dTru, truD, dBin, dCons, dNil, dTup, dLst, mkL, dCall, dAsg, dAug, dPar, dgName, dgTup, dgCons, dgNil, dDrop, R.bind, R.s, R.b, aLe, aLt, aGt, aGe, aSub, aAdd, aMul, aFdiv, aMod, aEq, aNe, aIsN, aNotN, D.isNon, aAddI, aIx, L2.atI, L2.ixN, beqi, seqA, seqL, seqR, okEq, norm, D.isSc, D.isStr, D.dat, D.dats, D.dep, D.deps, D.eqv, D.eqvs, dRaise, dNeg, bSum, bAbs, bInt, bMax2, bMin2, bLen, intsD, dSl, aSl, dP, dNoP, okMul, fm, fd, e_llong y m o st h1 h2, h3]
  · by_cases h4 : m < 12 <;> simp [dSeq, dIfS, dNot, dB, dChain, dC, dVar, dRet, dRetN, dNext, dAndV, dOrV, dNotV, dAnd, dOr, dIf, dTru, truD, dBin, dCons, dNil, dTup, dLst, mkL, dCall, dAsg, dAug, dPar, dgName, dgTup, dgCons, dgNil, dDrop, R.bind, R.s, R.b, aLe, aLt, aGt, aGe, aSub, aAdd, aMul, aFdiv, aMod, aEq, aNe, aIsN, aNotN, D.isNon, aAddI, aIx, L2.atI, L2.ixN, beqi, seqA, seqL, seqR, okEq, norm, D.isSc, D.isStr, D.dat, D.dats, D.dep, D.deps, D.eqv, D.eqvs, dRaise, dNeg, bSum, bAbs, bInt, bMax2, bMin2, bLen, intsD, dSl, aSl, dP, dNoP, okMul, fm, fd, e_llong y m o st h1 h2, h3, h4]
theorem nxt_val {y m d : Int} (h : Val y m d) (hl : num y m d < 3652059) : Val (nxt false y m d).1 (nxt false y m d).2.1 (nxt false y m d).2.2 ∧ num (nxt false y m d).1 (nxt false y m d).2.1 (nxt false y m d).2.2 = num y m d + 1 := by
  have hi := num_in h
  obtain ⟨⟨⟨h1, h2⟩, h3, h4⟩, h5, h6⟩ := h
  unfold nxt
  by_cases e : d < dim y m
  · simp [e]
    exact ⟨⟨⟨⟨h1, h2⟩, h3, h4⟩, by omega, by omega⟩, by unfold num; omega⟩
  · have ed : d = dim y m := by omega
    have a := cum_next (y := y) h3 h4
    by_cases e2 : m < 12
    · simp [e, e2]
      have := dim_pos (y := y) (m := m + 1) (by omega) (by omega)
      exact ⟨⟨⟨⟨h1, h2⟩, by omega, by omega⟩, by omega, by omega⟩, by unfold num; omega⟩
    · simp [e, e2]
      have em : m = 12 := by omega
      subst em
      rw [show (12 : Int) + 1 = 13 from rfl] at a
      have c := cum_13 y
      have f := dby_next y
      have g := cum_1 (y + 1)
      have hn : num (y + 1) 1 1 = num y 12 d + 1 := by unfold num; omega
      have hy : y + 1 ≤ 9999 := by
        by_cases hy : y = 9999
        · subst hy
          have e1 : dby (9999 + 1) = 3652059 := by decide
          have : num 9999 12 d = dby (9999 + 1) := by unfold num; omega
          omega
        · omega
      refine ⟨⟨⟨⟨by omega, hy⟩, by decide, by decide⟩, by decide, ?_⟩, hn⟩
      have := (dim_pos (y := y + 1) (m := 1) (by decide) (by decide)).1
      omega
theorem nxt_jv {y m d : Int} (h : JV y m d) : JV (nxt true y m d).1 (nxt true y m d).2.1 (nxt true y m d).2.2 ∧ jnum (nxt true y m d).1 (nxt true y m d).2.1 (nxt true y m d).2.2 = jnum y m d + 1 := by
  obtain ⟨h1, ⟨h3, h4⟩, h5, h6⟩ := h
  unfold nxt
  by_cases e : d < jdim y m
  · simp [e]
    exact ⟨⟨h1, ⟨h3, h4⟩, by omega, by omega⟩, by unfold jnum; omega⟩
  · have ed : d = jdim y m := by omega
    have a := jcum_next (y := y) h3 h4
    by_cases e2 : m < 12
    · simp [e, e2]
      have := jdim_pos (y := y) (m := m + 1) (by omega) (by omega)
      exact ⟨⟨h1, ⟨by omega, by omega⟩, by omega, by omega⟩, by unfold jnum; omega⟩
    · simp [e, e2]
      have em : m = 12 := by omega
      subst em
      rw [show (12 : Int) + 1 = 13 from rfl] at a
      have c := jcum_13 y
      have f := jby_next y
      have g := jcum_1 (y + 1)
      have hn : jnum (y + 1) 1 1 = jnum y 12 d + 1 := by unfold jnum; omega
      refine ⟨⟨by omega, ⟨by decide, by decide⟩, by decide, ?_⟩, hn⟩
      have := (jdim_pos (y := y + 1) (m := 1) (by decide) (by decide)).1
      omega
theorem j_onto : ∀ n : Nat, ∃ y m d, JV y m d ∧ jnum y m d = (n : Int) + 1
  | 0 => ⟨1, 1, 3, ⟨by decide, ⟨by decide, by decide⟩, by decide, by decide⟩, by decide⟩
  | n + 1 => by
    obtain ⟨y, m, d, h, e⟩ := j_onto n
    obtain ⟨h1, h2⟩ := nxt_jv h
    exact ⟨_, _, _, h1, by omega⟩
theorem j_year {y m d : Int} (h : JV y m d) (hn : jnum y m d ≤ 3652059) : y ≤ 9999 := by
  have hi := jcum_in h
  by_cases hy : y ≤ 9999
  · exact hy
  · exfalso
    unfold jnum jby at hn
    omega
theorem g_onto (n : Int) (h1 : 1 ≤ n) (h2 : n ≤ 3652059) : ∃ y m d, Val y m d ∧ num y m d = n := by
  obtain ⟨k, rfl⟩ : ∃ k : Nat, n = (k : Int) + 1 := ⟨(n - 1).toNat, by omega⟩
  clear h1
  induction k with
  | zero => exact ⟨1, 1, 1, by decide, by decide⟩
  | succ k ih =>
    obtain ⟨y, m, d, h, e⟩ := ih (by omega)
    obtain ⟨h3, h4⟩ := nxt_val h (by omega)
    exact ⟨_, _, _, h3, by omega⟩
theorem g_date (n : Int) (h1 : 1 ≤ n) (h2 : n ≤ 3652059) : ∃ q, ∀ st, f_date_of [.int n] st = .ok q st := by
  obtain ⟨y, m, d, h, e⟩ := g_onto n h1 h2
  exact ⟨_, fun st => by rw [← e]; exact e_date_of h st⟩
/-- the date of the dice -/
theorem e_ldate {st : Store} {n : Nat} {a b c : Int} (hs : lstAt st n = some [.int a, .int b, .int c]) :
    ∃ y m d a' b' c' : Int, Val y m d ∧ f__law_date [.ref n] st = .ok (.tup [.int y, .int m, .int d]) (st.set n (.lst [.int a', .int b', .int c'])) := by
  obtain ⟨r1, a1, b1, c1, p1, q1, s1⟩ := e_roll 9999 hs (by decide) (by decide)
  have t1 := lstAt_set (es := [.int a1, .int b1, .int c1]) hs
  obtain ⟨r2, a2, b2, c2, p2, q2, s2⟩ := e_roll 220 t1 (by decide) (by decide)
  have t2 := lstAt_set (es := [.int a2, .int b2, .int c2]) hs
  rw [List.set_set] at s2
  obtain ⟨r3, a3, b3, c3, p3, q3, s3⟩ := e_roll 7 t2 (by decide) (by decide)
  have t3 := lstAt_set (es := [.int a3, .int b3, .int c3]) hs
  rw [List.set_set] at s3
  obtain ⟨r4, a4, b4, c4, p4, q4, s4⟩ := e_roll 3 t3 (by decide) (by decide)
  have t4 := lstAt_set (es := [.int a4, .int b4, .int c4]) hs
  rw [List.set_set] at s4
  obtain ⟨r5, a5, b5, c5, p5, q5, s5⟩ := e_roll 12 t4 (by decide) (by decide)
  have t5 := lstAt_set (es := [.int a5, .int b5, .int c5]) hs
  rw [List.set_set] at s5
  obtain ⟨r6, a6, b6, c6, p6, q6, s6⟩ := e_roll 28 t5 (by decide) (by decide)
  have t6 := lstAt_set (es := [.int a6, .int b6, .int c6]) hs
  rw [List.set_set] at s6
  obtain ⟨r7, a7, b7, c7, p7, q7, s7⟩ := e_roll 2 t6 (by decide) (by decide)
  rw [List.set_set] at s7
  obtain ⟨y3, hy3, hy3b⟩ : ∃ y3 : Int, (1 ≤ y3 ∧ y3 ≤ 9999) ∧ L2.atI ([.int 4, .int 100, .int 400, .int 1600, .int 1900, .int 2000, .int 9999] : List D) r3 = some (.int y3) := by
    have : r3 = 0 ∨ r3 = 1 ∨ r3 = 2 ∨ r3 = 3 ∨ r3 = 4 ∨ r3 = 5 ∨ r3 = 6 := by omega
    rcases this with rfl | rfl | rfl | rfl | rfl | rfl | rfl <;> exact ⟨_, by decide, rfl⟩
  obtain ⟨y, hy, hyb⟩ : ∃ y : Int, (1 ≤ y ∧ y ≤ 9999) ∧ L2.atI ([.int (1 + r1), .int (1890 + r2), .int y3] : List D) r4 = some (.int y) := by
    have : r4 = 0 ∨ r4 = 1 ∨ r4 = 2 := by omega
    rcases this with rfl | rfl | rfl
    · exact ⟨1 + r1, by omega, rfl⟩
    · exact ⟨1890 + r2, by omega, rfl⟩
    · exact ⟨y3, hy3, rfl⟩
  have hm : 1 ≤ 1 + r5 ∧ 1 + r5 ≤ 12 := by omega
  have hd := dim_pos (y := y) hm.1 hm.2
  obtain ⟨d, hd1, hdb⟩ : ∃ d : Int, (1 ≤ d ∧ d ≤ dim y (1 + r5)) ∧ L2.atI ([.int (1 + r6), .int (dim y (1 + r5))] : List D) r7 = some (.int d) := by
    have : r7 = 0 ∨ r7 = 1 := by omega
    rcases this with rfl | rfl
    · exact ⟨1 + r6, by omega, rfl⟩
    · exact ⟨dim y (1 + r5), by omega, rfl⟩
  refine ⟨y, 1 + r5, d, a7, b7, c7, ⟨⟨hy, hm⟩, hd1⟩, ?_⟩
  have ll := fun st => e_llong y (1 + r5) false st hm.1 hm.2
  unfold f__law_date b__law_date runB
  simp [dSeq, dIfS, dNot, dB, dChain, dC, dVar, dRet, dRetN, dNext, dAndV, dOrV, dNotV, dAnd, dOr, dIf, dTru, truD, dBin, dCons, dNil, dTup, dLst, mkL, dCall, dAsg, dAug, dPar, dgName, dgTup, dgCons, dgNil, dDrop, R.bind, R.s, R.b, aLe, aLt, aGt, aGe, aSub, aAdd, aMul, aFdiv, aMod, aEq, aNe, aIsN, aNotN, D.isNon, aAddI, aIx, L2.ixN, beqi, seqA, seqL, seqR, okEq, norm, D.isSc, D.isStr, D.dat, D.dats, D.dep, D.deps, D.eqv, D.eqvs, dRaise, dNeg, bSum, bAbs, bInt, bMax2, bMin2, bLen, intsD, dSl, aSl, dP, dNoP, okMul, fm, fd, s1, s2, s3, hy3b, s4, hyb, s5, s6, ll, s7, hdb]
end K01

namespace K01
open PySem G
theorem num_inj {y m d y' m' d' : Int} (h : Val y m d) (h' : Val y' m' d') (e : num y m d = num y' m' d') : y = y' ∧ m = m' ∧ d = d' := by
  have a := e_date_of h []
  have b := e_date_of h' []
  rw [e, b] at a
  cases a
  exact ⟨rfl, rfl, rfl⟩
theorem num_lt {y m d y' m' d' : Int} (h : Val y m d) (h' : Val y' m' d') : num y m d < num y' m' d' ↔ (y < y' ∨ (y = y' ∧ (m < m' ∨ (m = m' ∧ d < d')))) := by
  have aux : ∀ {y m d y' m' d' : Int}, Val y m d → Val y' m' d' → (y < y' ∨ (y = y' ∧ (m < m' ∨ (m = m' ∧ d < d')))) → num y m d < num y' m' d' := by
    intro y m d y' m' d' h h' q
    have i := num_in h
    have i' := num_in h'
    rcases q with q | ⟨rfl, q | ⟨rfl, q⟩⟩
    · have := dby_mono q
      omega
    · obtain ⟨⟨h1, h3, h4⟩, h5, h6⟩ := h
      obtain ⟨⟨h1', h3', h4'⟩, h5', h6'⟩ := h'
      have a := cum_next (y := y) h3 h4
      have b := cum_mono (y := y) h3 q (by omega)
      unfold num
      omega
    · unfold num
      omega
  constructor
  · intro q
    by_cases c : (y < y' ∨ (y = y' ∧ (m < m' ∨ (m = m' ∧ d < d'))))
    · exact c
    · exfalso
      by_cases e : y = y' ∧ m = m' ∧ d = d'
      · obtain ⟨rfl, rfl, rfl⟩ := e
        omega
      · have := aux h' h (by omega)
        omega
  · exact aux h h'
def stp (p : Int × Int × Int) : Int × Int × Int := if p = (9999, 12, 31) then p else nxt false p.1 p.2.1 p.2.2
def itr (p : Int × Int × Int) : Nat → Int × Int × Int
  | 0 => p
  | n + 1 => stp (itr p n)
def VP3 (p : Int × Int × Int) : Prop := Val p.1 p.2.1 p.2.2
def N3 (p : Int × Int × Int) : Int := num p.1 p.2.1 p.2.2
theorem last_num {p : Int × Int × Int} (h : VP3 p) (hp : p ≠ (9999, 12, 31)) : N3 p < 3652059 := by
  have a := (num_bd h).2
  by_cases e : N3 p = 3652059
  · exfalso
    have b : Val 9999 12 31 := by decide
    obtain ⟨h1, h2, h3⟩ := num_inj h b (e.trans (by decide))
    obtain ⟨p1, p2, p3⟩ := p
    simp at h1 h2 h3
    subst h1 h2 h3
    exact hp rfl
  · unfold N3 at e ⊢
    omega
theorem itr_val {p : Int × Int × Int} (h : VP3 p) : ∀ n, VP3 (itr p n) ∧ (itr p n = (9999, 12, 31) ∨ N3 (itr p n) = N3 p + n)
  | 0 => ⟨h, .inr (by simp [itr])⟩
  | n + 1 => by
    obtain ⟨h1, h2⟩ := itr_val h n
    have es : itr p (n + 1) = stp (itr p n) := rfl
    rw [es]
    generalize itr p n = q at h1 h2 ⊢
    unfold stp
    by_cases e : q = (9999, 12, 31)
    · rw [if_pos e]
      exact ⟨h1, .inl e⟩
    · rw [if_neg e]
      have h3 : N3 q = N3 p + n := h2.resolve_left e
      obtain ⟨h4, h5⟩ := nxt_val h1 (last_num h1 e)
      refine ⟨h4, .inr ?_⟩
      show num _ _ _ = _
      rw [h5]
      unfold N3 at h3
      unfold N3
      omega
theorem e_stp (a0 a1 a2 a3 a4 a5 a6 a8 a10 a11 a12 a13 a14 o : Option D) (p : Int × Int × Int) (h : VP3 p) (st : Store) : l_law_1 [a0, a1, a2, a3, a4, a5, a6, some (tupD p), a8, o, a10, a11, a12, a13, a14] st = .nx [a0, a1, a2, a3, a4, a5, a6, some (tupD (stp p)), a8, o, a10, a11, a12, a13, a14] st := by
  obtain ⟨y, m, d⟩ := p
  have hm : 1 ≤ m ∧ m ≤ 12 := h.1.2
  have e : f__law_next [tupD (y, m, d), .bl false] st = _ := e_lnext y m d false st hm.1 hm.2
  unfold l_law_1 stp
  by_cases c : (y, m, d) = ((9999, 12, 31) : Int × Int × Int)
  · rw [if_pos c]
    cases c
    simp [dSeq, dIfS, dNot, dB, dChain, dC, dVar, dRet, dRetN, dNext, dAndV, dOrV, dNotV, dAnd, dOr, dIf, dTru, truD, dBin, dCons, dNil, dTup, dLst, mkL, dCall, dAsg, dAug, dPar, dgName, dgTup, dgCons, dgNil, dDrop, R.bind, R.s, R.b, aLe, aLt, aGt, aGe, aSub, aAdd, aMul, aFdiv, aMod, aEq, aNe, aIsN, aNotN, D.isNon, aAddI, aIx, L2.atI, L2.ixN, beqi, seqA, seqL, seqR, okEq, norm, D.isSc, D.isStr, D.dat, D.dats, D.dep, D.deps, D.eqv, D.eqvs, dRaise, dNeg, bSum, bAbs, bInt, bMax2, bMin2, bLen, intsD, dSl, aSl, dP, dNoP, okMul, fm, fd, tupD]
  · rw [if_neg c]
    have c2 : ¬ y = 9999 ∨ ¬ m = 12 ∨ ¬ d = 31 := by
      by_cases h1 : y = 9999 <;> by_cases h2 : m = 12 <;> by_cases h3 : d = 31 <;> simp [h1, h2, h3]
      exact c (by rw [h1, h2, h3])
    unfold tupD at e ⊢
    simp [dSeq, dIfS, dNot, dB, dChain, dC, dVar, dRet, dRetN, dNext, dAndV, dOrV, dNotV, dAnd, dOr, dIf, dTru, truD, dBin, dCons, dNil, dTup, dLst, mkL, dCall, dAsg, dAug, dPar, dgName, dgTup, dgCons, dgNil, dDrop, R.bind, R.s, R.b, aLe, aLt, aGt, aGe, aSub, aAdd, aMul, aFdiv, aMod, aEq, aNe, aIsN, aNotN, D.isNon, aAddI, aIx, L2.atI, L2.ixN, beqi, seqA, seqL, seqR, okEq, norm, D.isSc, D.isStr, D.dat, D.dats, D.dep, D.deps, D.eqv, D.eqvs, dRaise, dNeg, bSum, bAbs, bInt, bMax2, bMin2, bLen, intsD, dSl, aSl, dP, dNoP, okMul, fm, fd, e, c2]
end K01

namespace K01
open PySem G
theorem e_apart {y m d : Int} (h : Val y m d) (st : Store) : f_apart_calendars [.tup [.int y, .int m, .int d]] st = if 1 ≤ jnum y m d then .ok (.int (jnum y m d - num y m d)) st else .ex "DayError" st := by
  have hj : d ≤ jdim y m := by
    have : dim y m ≤ jdim y m := by
      unfold dim jdim leapB
      by_cases h1 : m = 2 <;> by_cases h2 : y % 4 = 0 <;> simp [h1, h2] <;> split <;> omega
    have := h.2.2
    omega
  have ⟨⟨⟨h1, h2⟩, h3, h4⟩, h5, h6⟩ := h
  unfold f_apart_calendars b_apart_calendars runB
  by_cases c : 1 ≤ jnum y m d
  · have e := e_old_number y m d st
    rw [if_pos ⟨h2, ⟨h1, ⟨h3, h4⟩, h5, hj⟩, c⟩] at e
    simp [dSeq, dIfS, dNot, dB, dChain, dC, dVar, dRet, dRetN, dNext, dAndV, dOrV, dNotV, dAnd, dOr, dIf, dTru, truD, dBin, dCons, dNil, dTup, dLst, mkL, dCall, dAsg, dAug, dPar, dgName, dgTup, dgCons, dgNil, dDrop, R.bind, R.s, R.b, aLe, aLt, aGt, aGe, aSub, aAdd, aMul, aFdiv, aMod, aEq, aNe, aIsN, aNotN, D.isNon, aAddI, aIx, L2.atI, L2.ixN, beqi, seqA, seqL, seqR, okEq, norm, D.isSc, D.isStr, D.dat, D.dats, D.dep, D.deps, D.eqv, D.eqvs, dRaise, dNeg, bSum, bAbs, bInt, bMax2, bMin2, bLen, intsD, dSl, aSl, dP, dNoP, okMul, fm, fd, e, e_num, h, c]
  · have e := e_old_number y m d st
    rw [if_neg (fun z => c z.2.2)] at e
    simp [dSeq, dIfS, dNot, dB, dChain, dC, dVar, dRet, dRetN, dNext, dAndV, dOrV, dNotV, dAnd, dOr, dIf, dTru, truD, dBin, dCons, dNil, dTup, dLst, mkL, dCall, dAsg, dAug, dPar, dgName, dgTup, dgCons, dgNil, dDrop, R.bind, R.s, R.b, aLe, aLt, aGt, aGe, aSub, aAdd, aMul, aFdiv, aMod, aEq, aNe, aIsN, aNotN, D.isNon, aAddI, aIx, L2.atI, L2.ixN, beqi, seqA, seqL, seqR, okEq, norm, D.isSc, D.isStr, D.dat, D.dats, D.dep, D.deps, D.eqv, D.eqvs, dRaise, dNeg, bSum, bAbs, bInt, bMax2, bMin2, bLen, intsD, dSl, aSl, dP, dNoP, okMul, fm, fd, e, c]
theorem lex3 {y m d y' m' d' : Int} (h : Val y m d) (h' : Val y' m' d') : HT.lexLt [y, m, d] [y', m', d'] = decide (num y m d < num y' m' d') := by
  have a := num_lt h h'
  simp only [HT.lexLt]
  by_cases h1 : y = y'
  · by_cases h2 : m = m'
    · by_cases h3 : d = d'
      · subst h1 h2 h3
        simp
      · subst h1 h2
        simp [h3, decide_eq_decide, a]
    · subst h1
      simp [h2, decide_eq_decide, a]
  · simp [h1, decide_eq_decide, a]
theorem se : (("DayError" : Str) == "DayError") = true := by decide +kernel
/-- one turn of the law -/
theorem turn {st : Store} {n : Nat} {a b c : Int} (x0 : Option D) (hs : lstAt st n = some [.int a, .int b, .int c]) :
    ∃ env a' b' c', l_law_2 [x0, some (.ref n), none, none, none, none, none, none, none, none, none, none, none, none, none] st = .nx env (st.set n (.lst [.int a', .int b', .int c'])) := by
  obtain ⟨y, m, d, a1, b1, c1, V, s1⟩ := e_ldate hs
  have t1 := lstAt_set (es := [.int a1, .int b1, .int c1]) hs
  obtain ⟨y', m', d', a2, b2, c2, V', s2⟩ := e_ldate t1
  have t2 := lstAt_set (es := [.int a2, .int b2, .int c2]) hs
  rw [List.set_set] at s2
  obtain ⟨r, a3, b3, c3, p3, q3, s3⟩ := e_roll 70 t2 (by decide) (by decide)
  have t3 := lstAt_set (es := [.int a3, .int b3, .int c3]) hs
  rw [List.set_set] at s3
  obtain ⟨r4, a4, b4, c4, p4, q4, s4⟩ := e_roll 3 t3 (by decide) (by decide)
  have t4 := lstAt_set (es := [.int a4, .int b4, .int c4]) hs
  rw [List.set_set] at s4
  obtain ⟨r5, a5, b5, c5, p5, q5, s5⟩ := e_roll 15 t4 (by decide) (by decide)
  have t5 := lstAt_set (es := [.int a5, .int b5, .int c5]) hs
  rw [List.set_set] at s5
  obtain ⟨r6, a6, b6, c6, p6, q6, s6⟩ := e_roll 34 t5 (by decide) (by decide)
  rw [List.set_set] at s6
  have hi := num_in V
  have hb := num_bd V
  have ⟨⟨hy, hm⟩, hd⟩ := V
  have hm' := V'.1.2
  have hy' := V'.1.1
  obtain ⟨N, hN⟩ : ∃ N, N = num y m d := ⟨_, rfl⟩
  have e1 := fun st => e_lnumber (y := y) (m := m) (d := d) (by omega) (by omega) hm.1 hm.2 st
  have e2 : ∀ st, f_day_number [.tup [.int y, .int m, .int d]] st = .ok (.int (num y m d)) st := fun st => (e_num y m d st).trans (if_pos V)
  have e3 := fun st => e_date_of V st
  have e4 : ∀ st, f_check_date [.tup [.int y, .int m, .int d]] st = .ok .non st := fun st => (e_check y m d st).trans (if_pos V)
  have e5 := fun st => e_weekday (num y m d) st hb
  have e6 : (num y m d - 1) % 7 = (num y m d + 6) % 7 := by omega
  have e7 : ∀ st, f_is_leap [.int y] st = .ok (.bl (leapB y)) st := fun st => (v_is_leap y st).trans (if_pos hy)
  have e8 := fun (x0 x3 x5 x6 x7 x8 x9 x10 x11 x12 x13 x14 : Option D) (n0 : D) (x4 : Option D) (st : Store) => lcR (i := 5) (fe := y_law_1) (env := [x0, some n0, some (.tup [.int y, .int m, .int d]), x3, x4, x5, x6, x7, x8, x9, x10, x11, x12, x13, x14]) (st := st) (hi := 13) (v := fun k => .int (dim y k)) _ 1 (Nat.le_refl _) (fun k hk1 hk2 => by
    unfold y_law_1
    have : YM y k := ⟨hy, hk1, by omega⟩
    simp [dSeq, dIfS, dNot, dB, dChain, dC, dVar, dRet, dRetN, dNext, dAndV, dOrV, dNotV, dAnd, dOr, dIf, dTru, truD, dBin, dCons, dNil, dTup, dLst, mkL, dCall, dAsg, dAug, dPar, dgName, dgTup, dgCons, dgNil, dDrop, R.bind, R.s, R.b, aLe, aLt, aGt, aGe, aSub, aAdd, aMul, aFdiv, aMod, aEq, aNe, aIsN, aNotN, D.isNon, aAddI, aIx, L2.atI, L2.ixN, beqi, seqA, seqL, seqR, okEq, norm, D.isSc, D.isStr, D.dat, D.dats, D.dep, D.deps, D.eqv, D.eqvs, dRaise, dNeg, bSum, bAbs, bInt, bMax2, bMin2, bLen, intsD, dSl, aSl, dP, dNoP, okMul, fm, fd, e_dim, this])
  have e9 := fun (x0 x3 x5 x6 x7 x8 x9 x10 x11 x12 x13 x14 : Option D) (n0 : D) (x4 : Option D) (st : Store) => lcR (i := 5) (fe := y_law_2) (env := [x0, some n0, some (.tup [.int y, .int m, .int d]), x3, x4, x5, x6, x7, x8, x9, x10, x11, x12, x13, x14]) (st := st) (hi := 13) (v := fun k => .int (dim y k)) _ 1 (Nat.le_refl _) (fun k hk1 hk2 => by
    unfold y_law_2
    simp [dSeq, dIfS, dNot, dB, dChain, dC, dVar, dRet, dRetN, dNext, dAndV, dOrV, dNotV, dAnd, dOr, dIf, dTru, truD, dBin, dCons, dNil, dTup, dLst, mkL, dCall, dAsg, dAug, dPar, dgName, dgTup, dgCons, dgNil, dDrop, R.bind, R.s, R.b, aLe, aLt, aGt, aGe, aSub, aAdd, aMul, aFdiv, aMod, aEq, aNe, aIsN, aNotN, D.isNon, aAddI, aIx, L2.atI, L2.ixN, beqi, seqA, seqL, seqR, okEq, norm, D.isSc, D.isStr, D.dat, D.dats, D.dep, D.deps, D.eqv, D.eqvs, dRaise, dNeg, bSum, bAbs, bInt, bMax2, bMin2, bLen, intsD, dSl, aSl, dP, dNoP, okMul, fm, fd, e_llong y k false st hk1 (by omega)])
  have e10 := fun (x0 x3 x5 x6 x7 x8 x9 x10 x11 x12 x13 x14 : Option D) (n0 : D) (x4 : Option D) (st : Store) => lcR (i := 5) (fe := y_law_3) (env := [x0, some n0, some (.tup [.int y, .int m, .int d]), x3, x4, x5, x6, x7, x8, x9, x10, x11, x12, x13, x14]) (st := st) (hi := 13) (v := fun k => .int (jdim y k)) _ 1 (Nat.le_refl _) (fun k hk1 hk2 => by
    unfold y_law_3
    simp [dSeq, dIfS, dNot, dB, dChain, dC, dVar, dRet, dRetN, dNext, dAndV, dOrV, dNotV, dAnd, dOr, dIf, dTru, truD, dBin, dCons, dNil, dTup, dLst, mkL, dCall, dAsg, dAug, dPar, dgName, dgTup, dgCons, dgNil, dDrop, R.bind, R.s, R.b, aLe, aLt, aGt, aGe, aSub, aAdd, aMul, aFdiv, aMod, aEq, aNe, aIsN, aNotN, D.isNon, aAddI, aIx, L2.atI, L2.ixN, beqi, seqA, seqL, seqR, okEq, norm, D.isSc, D.isStr, D.dat, D.dats, D.dep, D.deps, D.eqv, D.eqvs, dRaise, dNeg, bSum, bAbs, bInt, bMax2, bMin2, bLen, intsD, dSl, aSl, dP, dNoP, okMul, fm, fd, e_mlo (y := y) hk1 (show k ≤ 12 by omega)])
  have e11 := fun (x0 x3 x5 x6 x7 x8 x9 x10 x11 x12 x13 x14 : Option D) (n0 : D) (x4 : Option D) (st : Store) => lcR (i := 5) (fe := y_law_4) (env := [x0, some n0, some (.tup [.int y, .int m, .int d]), x3, x4, x5, x6, x7, x8, x9, x10, x11, x12, x13, x14]) (st := st) (hi := 13) (v := fun k => .int (jdim y k)) _ 1 (Nat.le_refl _) (fun k hk1 hk2 => by
    unfold y_law_4
    simp [dSeq, dIfS, dNot, dB, dChain, dC, dVar, dRet, dRetN, dNext, dAndV, dOrV, dNotV, dAnd, dOr, dIf, dTru, truD, dBin, dCons, dNil, dTup, dLst, mkL, dCall, dAsg, dAug, dPar, dgName, dgTup, dgCons, dgNil, dDrop, R.bind, R.s, R.b, aLe, aLt, aGt, aGe, aSub, aAdd, aMul, aFdiv, aMod, aEq, aNe, aIsN, aNotN, D.isNon, aAddI, aIx, L2.atI, L2.ixN, beqi, seqA, seqL, seqR, okEq, norm, D.isSc, D.isStr, D.dat, D.dats, D.dep, D.deps, D.eqv, D.eqvs, dRaise, dNeg, bSum, bAbs, bInt, bMax2, bMin2, bLen, intsD, dSl, aSl, dP, dNoP, okMul, fm, fd, e_llong y k true st hk1 (by omega)])
  have bb1 : bnd 1 = true := by decide
  have bb13 : bnd 13 = true := by decide
  have e12 : ∀ st, f__law_number [.tup [.int y, .int 1, .int 1]] st = .ok (.int (dby y + 1)) st := fun st => by
    have := e_lnumber (y := y) (m := 1) (d := 1) (by omega) (by omega) (by decide) (by decide) st
    unfold num at this
    rw [cum_1] at this
    simpa using this
  have e13 := fun st => e_doy V st
  have e14 : num y m d - (dby y + 1) + 1 = num y m d - dby y := by omega
  have e15 : ∀ st, f_by_day_of_year [.int y, .int (num y m d - dby y)] st = .ok (.tup [.int y, .int m, .int d]) st := fun st => by
    have f := dby_next y
    rw [e_bydoy hy ⟨by omega, by split <;> split at f <;> first | omega | contradiction⟩ st, show dby y + (num y m d - dby y) = num y m d by omega]
    exact e3 st
  have e16 := fun st => e_days_from V V' st
  have e17 := fun st => e_lnumber (y := y') (m := m') (d := d') (by omega) (by omega) hm'.1 hm'.2 st
  have e18 := fun st => e_is_ahead V V' st
  have e19 := lex3 V V'
  have k1 : p_law_1 [x0, some (.ref n), none, none, none, none, none, none, none, none, none, none, none, none, none] st = .nx [x0, some (.ref n), some (.tup [.int y, .int m, .int d]), some (.tup [.int y', .int m', .int d']), none, none, none, none, none, none, none, none, none, none, none] (st.set n (.lst [.int a2, .int b2, .int c2])) := by
    unfold p_law_1
    simp [dSeq, dIfS, dNot, dB, dChain, dC, dVar, dRet, dRetN, dNext, dAndV, dOrV, dNotV, dAnd, dOr, dIf, dTru, truD, dBin, dCons, dNil, dTup, dLst, mkL, dCall, dAsg, dAug, dPar, dgName, dgTup, dgCons, dgNil, dDrop, R.bind, R.s, R.b, aLe, aLt, aGt, aGe, aSub, aAdd, aMul, aFdiv, aMod, aEq, aNe, aIsN, aNotN, D.isNon, aAddI, aIx, L2.atI, L2.ixN, beqi, seqA, seqL, seqR, okEq, norm, D.isSc, D.isStr, D.dat, D.dats, D.dep, D.deps, D.eqv, D.eqvs, dRaise, dNeg, bSum, bAbs, bInt, bMax2, bMin2, bLen, intsD, dSl, aSl, dP, dNoP, okMul, fm, fd, s1, s2]
  have k2 : p_law_2 [x0, some (.ref n), some (.tup [.int y, .int m, .int d]), some (.tup [.int y', .int m', .int d']), none, none, none, none, none, none, none, none, none, none, none] (st.set n (.lst [.int a2, .int b2, .int c2])) = .nx [x0, some (.ref n), some (.tup [.int y, .int m, .int d]), some (.tup [.int y', .int m', .int d']), some (.int (num y m d)), none, none, none, none, none, none, none, none, none, none] (st.set n (.lst [.int a2, .int b2, .int c2])) := by
    unfold p_law_2
    simp [dSeq, dIfS, dNot, dB, dChain, dC, dVar, dRet, dRetN, dNext, dAndV, dOrV, dNotV, dAnd, dOr, dIf, dTru, truD, dBin, dCons, dNil, dTup, dLst, mkL, dCall, dAsg, dAug, dPar, dgName, dgTup, dgCons, dgNil, dDrop, R.bind, R.s, R.b, aLe, aLt, aGt, aGe, aSub, aAdd, aMul, aFdiv, aMod, aEq, aNe, aIsN, aNotN, D.isNon, aAddI, aIx, L2.atI, L2.ixN, beqi, seqA, seqL, seqR, okEq, norm, D.isSc, D.isStr, D.dat, D.dats, D.dep, D.deps, D.eqv, D.eqvs, dRaise, dNeg, bSum, bAbs, bInt, bMax2, bMin2, bLen, intsD, dSl, aSl, dP, dNoP, okMul, fm, fd, e1]
  have k3 : p_law_3 [x0, some (.ref n), some (.tup [.int y, .int m, .int d]), some (.tup [.int y', .int m', .int d']), some (.int (num y m d)), none, none, none, none, none, none, none, none, none, none] (st.set n (.lst [.int a2, .int b2, .int c2])) = .nx [x0, some (.ref n), some (.tup [.int y, .int m, .int d]), some (.tup [.int y', .int m', .int d']), some (.int (num y m d)), none, none, none, none, none, none, none, none, none, none] (st.set n (.lst [.int a2, .int b2, .int c2])) := by
    unfold p_law_3
    simp [dSeq, dIfS, dNot, dB, dChain, dC, dVar, dRet, dRetN, dNext, dAndV, dOrV, dNotV, dAnd, dOr, dIf, dTru, truD, dBin, dCons, dNil, dTup, dLst, mkL, dCall, dAsg, dAug, dPar, dgName, dgTup, dgCons, dgNil, dDrop, R.bind, R.s, R.b, aLe, aLt, aGt, aGe, aSub, aAdd, aMul, aFdiv, aMod, aEq, aNe, aIsN, aNotN, D.isNon, aAddI, aIx, L2.atI, L2.ixN, beqi, seqA, seqL, seqR, okEq, norm, D.isSc, D.isStr, D.dat, D.dats, D.dep, D.deps, D.eqv, D.eqvs, dRaise, dNeg, bSum, bAbs, bInt, bMax2, bMin2, bLen, intsD, dSl, aSl, dP, dNoP, okMul, fm, fd, e2, e3, e4]
  have k4 : p_law_4 [x0, some (.ref n), some (.tup [.int y, .int m, .int d]), some (.tup [.int y', .int m', .int d']), some (.int (num y m d)), none, none, none, none, none, none, none, none, none, none] (st.set n (.lst [.int a2, .int b2, .int c2])) = .nx [x0, some (.ref n), some (.tup [.int y, .int m, .int d]), some (.tup [.int y', .int m', .int d']), some (.int (num y m d)), none, none, none, none, none, none, none, none, none, none] (st.set n (.lst [.int a2, .int b2, .int c2])) := by
    unfold p_law_4
    simp [dSeq, dIfS, dNot, dB, dChain, dC, dVar, dRet, dRetN, dNext, dAndV, dOrV, dNotV, dAnd, dOr, dIf, dTru, truD, dBin, dCons, dNil, dTup, dLst, mkL, dCall, dAsg, dAug, dPar, dgName, dgTup, dgCons, dgNil, dDrop, R.bind, R.s, R.b, aLe, aLt, aGt, aGe, aSub, aAdd, aMul, aFdiv, aMod, aEq, aNe, aIsN, aNotN, D.isNon, aAddI, aIx, L2.atI, L2.ixN, beqi, seqA, seqL, seqR, okEq, norm, D.isSc, D.isStr, D.dat, D.dats, D.dep, D.deps, D.eqv, D.eqvs, dRaise, dNeg, bSum, bAbs, bInt, bMax2, bMin2, bLen, intsD, dSl, aSl, dP, dNoP, okMul, fm, fd, e5, e6, e7, fm7, e_lleap]
  have k5 : p_law_5 [x0, some (.ref n), some (.tup [.int y, .int m, .int d]), some (.tup [.int y', .int m', .int d']), some (.int (num y m d)), none, none, none, none, none, none, none, none, none, none] (st.set n (.lst [.int a2, .int b2, .int c2])) = .nx [x0, some (.ref n), some (.tup [.int y, .int m, .int d]), some (.tup [.int y', .int m', .int d']), some (.int (num y m d)), none, none, none, none, none, none, none, none, none, none] (st.set n (.lst [.int a2, .int b2, .int c2])) := by
    unfold p_law_5
    simp [dSeq, dIfS, dNot, dB, dChain, dC, dVar, dRet, dRetN, dNext, dAndV, dOrV, dNotV, dAnd, dOr, dIf, dTru, truD, dBin, dCons, dNil, dTup, dLst, mkL, dCall, dAsg, dAug, dPar, dgName, dgTup, dgCons, dgNil, dDrop, R.bind, R.s, R.b, aLe, aLt, aGt, aGe, aSub, aAdd, aMul, aFdiv, aMod, aEq, aNe, aIsN, aNotN, D.isNon, aAddI, aIx, L2.atI, L2.ixN, beqi, seqA, seqL, seqR, okEq, norm, D.isSc, D.isStr, D.dat, D.dats, D.dep, D.deps, D.eqv, D.eqvs, dRaise, dNeg, bSum, bAbs, bInt, bMax2, bMin2, bLen, intsD, dSl, aSl, dP, dNoP, okMul, fm, fd, dLc, dRng2, bb1, bb13, range_len, wipeE, List.range, List.range.loop, e8, e9]
  have k6 : p_law_6 [x0, some (.ref n), some (.tup [.int y, .int m, .int d]), some (.tup [.int y', .int m', .int d']), some (.int (num y m d)), none, none, none, none, none, none, none, none, none, none] (st.set n (.lst [.int a2, .int b2, .int c2])) = .nx [x0, some (.ref n), some (.tup [.int y, .int m, .int d]), some (.tup [.int y', .int m', .int d']), some (.int (num y m d)), none, none, none, none, none, none, none, none, none, none] (st.set n (.lst [.int a2, .int b2, .int c2])) := by
    unfold p_law_6
    simp [dSeq, dIfS, dNot, dB, dChain, dC, dVar, dRet, dRetN, dNext, dAndV, dOrV, dNotV, dAnd, dOr, dIf, dTru, truD, dBin, dCons, dNil, dTup, dLst, mkL, dCall, dAsg, dAug, dPar, dgName, dgTup, dgCons, dgNil, dDrop, R.bind, R.s, R.b, aLe, aLt, aGt, aGe, aSub, aAdd, aMul, aFdiv, aMod, aEq, aNe, aIsN, aNotN, D.isNon, aAddI, aIx, L2.atI, L2.ixN, beqi, seqA, seqL, seqR, okEq, norm, D.isSc, D.isStr, D.dat, D.dats, D.dep, D.deps, D.eqv, D.eqvs, dRaise, dNeg, bSum, bAbs, bInt, bMax2, bMin2, bLen, intsD, dSl, aSl, dP, dNoP, okMul, fm, fd, dLc, dRng2, bb1, bb13, range_len, wipeE, List.range, List.range.loop, e10, e11]
  have k7 : p_law_7 [x0, some (.ref n), some (.tup [.int y, .int m, .int d]), some (.tup [.int y', .int m', .int d']), some (.int (num y m d)), none, none, none, none, none, none, none, none, none, none] (st.set n (.lst [.int a2, .int b2, .int c2])) = .nx [x0, some (.ref n), some (.tup [.int y, .int m, .int d]), some (.tup [.int y', .int m', .int d']), some (.int (num y m d)), none, some (.int (num y m d - dby y)), none, none, none, none, none, none, none, none] (st.set n (.lst [.int a2, .int b2, .int c2])) := by
    unfold p_law_7
    simp [dSeq, dIfS, dNot, dB, dChain, dC, dVar, dRet, dRetN, dNext, dAndV, dOrV, dNotV, dAnd, dOr, dIf, dTru, truD, dBin, dCons, dNil, dTup, dLst, mkL, dCall, dAsg, dAug, dPar, dgName, dgTup, dgCons, dgNil, dDrop, R.bind, R.s, R.b, aLe, aLt, aGt, aGe, aSub, aAdd, aMul, aFdiv, aMod, aEq, aNe, aIsN, aNotN, D.isNon, aAddI, aIx, L2.atI, L2.ixN, beqi, seqA, seqL, seqR, okEq, norm, D.isSc, D.isStr, D.dat, D.dats, D.dep, D.deps, D.eqv, D.eqvs, dRaise, dNeg, bSum, bAbs, bInt, bMax2, bMin2, bLen, intsD, dSl, aSl, dP, dNoP, okMul, fm, fd, e12, e14]
  have k8 : p_law_8 [x0, some (.ref n), some (.tup [.int y, .int m, .int d]), some (.tup [.int y', .int m', .int d']), some (.int (num y m d)), none, some (.int (num y m d - dby y)), none, none, none, none, none, none, none, none] (st.set n (.lst [.int a2, .int b2, .int c2])) = .nx [x0, some (.ref n), some (.tup [.int y, .int m, .int d]), some (.tup [.int y', .int m', .int d']), some (.int (num y m d)), none, some (.int (num y m d - dby y)), none, none, none, none, none, none, none, none] (st.set n (.lst [.int a2, .int b2, .int c2])) := by
    unfold p_law_8
    simp [dSeq, dIfS, dNot, dB, dChain, dC, dVar, dRet, dRetN, dNext, dAndV, dOrV, dNotV, dAnd, dOr, dIf, dTru, truD, dBin, dCons, dNil, dTup, dLst, mkL, dCall, dAsg, dAug, dPar, dgName, dgTup, dgCons, dgNil, dDrop, R.bind, R.s, R.b, aLe, aLt, aGt, aGe, aSub, aAdd, aMul, aFdiv, aMod, aEq, aNe, aIsN, aNotN, D.isNon, aAddI, aIx, L2.atI, L2.ixN, beqi, seqA, seqL, seqR, okEq, norm, D.isSc, D.isStr, D.dat, D.dats, D.dep, D.deps, D.eqv, D.eqvs, dRaise, dNeg, bSum, bAbs, bInt, bMax2, bMin2, bLen, intsD, dSl, aSl, dP, dNoP, okMul, fm, fd, e13, e15]
  have k9 : p_law_9 [x0, some (.ref n), some (.tup [.int y, .int m, .int d]), some (.tup [.int y', .int m', .int d']), some (.int (num y m d)), none, some (.int (num y m d - dby y)), none, none, none, none, none, none, none, none] (st.set n (.lst [.int a2, .int b2, .int c2])) = .nx [x0, some (.ref n), some (.tup [.int y, .int m, .int d]), some (.tup [.int y', .int m', .int d']), some (.int (num y m d)), none, some (.int (num y m d - dby y)), none, none, none, none, none, none, none, none] (st.set n (.lst [.int a2, .int b2, .int c2])) := by
    unfold p_law_9
    simp [dSeq, dIfS, dNot, dB, dChain, dC, dVar, dRet, dRetN, dNext, dAndV, dOrV, dNotV, dAnd, dOr, dIf, dTru, truD, dBin, dCons, dNil, dTup, dLst, mkL, dCall, dAsg, dAug, dPar, dgName, dgTup, dgCons, dgNil, dDrop, R.bind, R.s, R.b, aLe, aLt, aGt, aGe, aSub, aAdd, aMul, aFdiv, aMod, aEq, aNe, aIsN, aNotN, D.isNon, aAddI, aIx, L2.atI, L2.ixN, beqi, seqA, seqL, seqR, okEq, norm, D.isSc, D.isStr, D.dat, D.dats, D.dep, D.deps, D.eqv, D.eqvs, dRaise, dNeg, bSum, bAbs, bInt, bMax2, bMin2, bLen, intsD, dSl, aSl, dP, dNoP, okMul, fm, fd, e12, e_dby]
  have k10 : p_law_10 [x0, some (.ref n), some (.tup [.int y, .int m, .int d]), some (.tup [.int y', .int m', .int d']), some (.int (num y m d)), none, some (.int (num y m d - dby y)), none, none, none, none, none, none, none, none] (st.set n (.lst [.int a2, .int b2, .int c2])) = .nx [x0, some (.ref n), some (.tup [.int y, .int m, .int d]), some (.tup [.int y', .int m', .int d']), some (.int (num y m d)), none, some (.int (num y m d - dby y)), none, none, none, none, none, none, none, none] (st.set n (.lst [.int a2, .int b2, .int c2])) := by
    unfold p_law_10
    simp [dSeq, dIfS, dNot, dB, dChain, dC, dVar, dRet, dRetN, dNext, dAndV, dOrV, dNotV, dAnd, dOr, dIf, dTru, truD, dBin, dCons, dNil, dTup, dLst, mkL, dCall, dAsg, dAug, dPar, dgName, dgTup, dgCons, dgNil, dDrop, R.bind, R.s, R.b, aLe, aLt, aGt, aGe, aSub, aAdd, aMul, aFdiv, aMod, aEq, aNe, aIsN, aNotN, D.isNon, aAddI, aIx, L2.atI, L2.ixN, beqi, seqA, seqL, seqR, okEq, norm, D.isSc, D.isStr, D.dat, D.dats, D.dep, D.deps, D.eqv, D.eqvs, dRaise, dNeg, bSum, bAbs, bInt, bMax2, bMin2, bLen, intsD, dSl, aSl, dP, dNoP, okMul, fm, fd, e16, e17, e18, e19]
  have k11 : p_law_11 [x0, some (.ref n), some (.tup [.int y, .int m, .int d]), some (.tup [.int y', .int m', .int d']), some (.int (num y m d)), none, some (.int (num y m d - dby y)), none, none, none, none, none, none, none, none] (st.set n (.lst [.int a2, .int b2, .int c2])) = .nx [x0, some (.ref n), some (.tup [.int y, .int m, .int d]), some (.tup [.int y', .int m', .int d']), some (.int (num y m d)), none, some (.int (num y m d - dby y)), some (.tup [.int y, .int m, .int d]), some (.int r), none, none, none, none, none, none] (st.set n (.lst [.int a3, .int b3, .int c3])) := by
    unfold p_law_11
    simp [dSeq, dIfS, dNot, dB, dChain, dC, dVar, dRet, dRetN, dNext, dAndV, dOrV, dNotV, dAnd, dOr, dIf, dTru, truD, dBin, dCons, dNil, dTup, dLst, mkL, dCall, dAsg, dAug, dPar, dgName, dgTup, dgCons, dgNil, dDrop, R.bind, R.s, R.b, aLe, aLt, aGt, aGe, aSub, aAdd, aMul, aFdiv, aMod, aEq, aNe, aIsN, aNotN, D.isNon, aAddI, aIx, L2.atI, L2.ixN, beqi, seqA, seqL, seqR, okEq, norm, D.isSc, D.isStr, D.dat, D.dats, D.dep, D.deps, D.eqv, D.eqvs, dRaise, dNeg, bSum, bAbs, bInt, bMax2, bMin2, bLen, intsD, dSl, aSl, dP, dNoP, okMul, fm, fd, s3]
  obtain ⟨o12, q12⟩ := forR (i := 9) (fb := l_law_1) (st := (st.set n (.lst [.int a3, .int b3, .int c3]))) (hi := r) (fun k o => [x0, some (.ref n), some (.tup [.int y, .int m, .int d]), some (.tup [.int y', .int m', .int d']), some (.int (num y m d)), none, some (.int (num y m d - dby y)), some (tupD (itr (y, m, d) k.toNat)), some (.int r), o, none, none, none, none, none]) (fun k o => rfl) _ 0 none (Nat.le_refl _) (fun k hk1 hk2 => by
    have hv := (itr_val (p := (y, m, d)) V k.toNat).1
    have he := e_stp x0 (some (.ref n)) (some (.tup [.int y, .int m, .int d])) (some (.tup [.int y', .int m', .int d'])) (some (.int (num y m d))) none (some (.int (num y m d - dby y))) (some (.int r)) none none none none none (some (.int k)) _ hv (st.set n (.lst [.int a3, .int b3, .int c3]))
    rw [show (k + 1).toNat = k.toNat + 1 by omega]
    exact he) p3
  have br : bnd r = true := by unfold bnd; simp; omega
  have k12 : p_law_12 [x0, some (.ref n), some (.tup [.int y, .int m, .int d]), some (.tup [.int y', .int m', .int d']), some (.int (num y m d)), none, some (.int (num y m d - dby y)), some (.tup [.int y, .int m, .int d]), some (.int r), none, none, none, none, none, none] (st.set n (.lst [.int a3, .int b3, .int c3])) = .nx [x0, some (.ref n), some (.tup [.int y, .int m, .int d]), some (.tup [.int y', .int m', .int d']), some (.int (num y m d)), none, some (.int (num y m d - dby y)), some (tupD (itr (y, m, d) r.toNat)), some (.int r), o12, none, none, none, none, none] (st.set n (.lst [.int a3, .int b3, .int c3])) := by
    unfold p_law_12
    simp [dSeq, dIfS, dNot, dB, dChain, dC, dVar, dRet, dRetN, dNext, dAndV, dOrV, dNotV, dAnd, dOr, dIf, dTru, truD, dBin, dCons, dNil, dTup, dLst, mkL, dCall, dAsg, dAug, dPar, dgName, dgTup, dgCons, dgNil, dDrop, R.bind, R.s, R.b, aLe, aLt, aGt, aGe, aSub, aAdd, aMul, aFdiv, aMod, aEq, aNe, aIsN, aNotN, D.isNon, aAddI, aIx, L2.atI, L2.ixN, beqi, seqA, seqL, seqR, okEq, norm, D.isSc, D.isStr, D.dat, D.dats, D.dep, D.deps, D.eqv, D.eqvs, dRaise, dNeg, bSum, bAbs, bInt, bMax2, bMin2, bLen, intsD, dSl, aSl, dP, dNoP, okMul, fm, fd, dFor, dRng1, br]
    exact q12
  obtain ⟨⟨uy, um, ud⟩, hu⟩ : ∃ p, p = itr (y, m, d) r.toNat := ⟨_, rfl⟩
  obtain ⟨U, hu2⟩ := itr_val (p := (y, m, d)) V r.toNat
  rw [← hu] at U hu2 k12
  replace k12 : p_law_12 [x0, some (.ref n), some (.tup [.int y, .int m, .int d]), some (.tup [.int y', .int m', .int d']), some (.int (num y m d)), none, some (.int (num y m d - dby y)), some (.tup [.int y, .int m, .int d]), some (.int r), none, none, none, none, none, none] (st.set n (.lst [.int a3, .int b3, .int c3])) = .nx [x0, some (.ref n), some (.tup [.int y, .int m, .int d]), some (.tup [.int y', .int m', .int d']), some (.int (num y m d)), none, some (.int (num y m d - dby y)), some (.tup [.int uy, .int um, .int ud]), some (.int r), o12, none, none, none, none, none] (st.set n (.lst [.int a3, .int b3, .int c3])) := k12
  have k13 : p_law_13 [x0, some (.ref n), some (.tup [.int y, .int m, .int d]), some (.tup [.int y', .int m', .int d']), some (.int (num y m d)), none, some (.int (num y m d - dby y)), some (.tup [.int uy, .int um, .int ud]), some (.int r), o12, none, none, none, none, none] (st.set n (.lst [.int a3, .int b3, .int c3])) = .nx [x0, some (.ref n), some (.tup [.int y, .int m, .int d]), some (.tup [.int y', .int m', .int d']), some (.int (num y m d)), none, some (.int (num y m d - dby y)), some (.tup [.int uy, .int um, .int ud]), some (.int r), o12, none, none, none, none, none] (st.set n (.lst [.int a3, .int b3, .int c3])) := by
    unfold p_law_13
    have l1 := fun st => e_later r V st
    have l2 := fun st => e_later (-r) U st
    rcases hu2 with hu2 | hu2
    · cases hu2
      simp [dSeq, dIfS, dNot, dB, dChain, dC, dVar, dRet, dRetN, dNext, dAndV, dOrV, dNotV, dAnd, dOr, dIf, dTru, truD, dBin, dCons, dNil, dTup, dLst, mkL, dCall, dAsg, dAug, dPar, dgName, dgTup, dgCons, dgNil, dDrop, R.bind, R.s, R.b, aLe, aLt, aGt, aGe, aSub, aAdd, aMul, aFdiv, aMod, aEq, aNe, aIsN, aNotN, D.isNon, aAddI, aIx, L2.atI, L2.ixN, beqi, seqA, seqL, seqR, okEq, norm, D.isSc, D.isStr, D.dat, D.dats, D.dep, D.deps, D.eqv, D.eqvs, dRaise, dNeg, bSum, bAbs, bInt, bMax2, bMin2, bLen, intsD, dSl, aSl, dP, dNoP, okMul, fm, fd]
    · have hu3 : num uy um ud = num y m d + r := by
        have z : N3 (uy, um, ud) = N3 (y, m, d) + r.toNat := hu2
        unfold N3 at z
        have w : num uy um ud = num y m d + (r.toNat : Int) := z
        omega
      have l3 : ∀ st, f_later [.tup [.int y, .int m, .int d], .int r] st = .ok (.tup [.int uy, .int um, .int ud]) st := fun st => by
        rw [l1, ← hu3]
        exact e_date_of U st
      have l4 : ∀ st, f_later [.tup [.int uy, .int um, .int ud], .int (-r)] st = .ok (.tup [.int y, .int m, .int d]) st := fun st => by
        refine (e_later (-r) U st).trans ?_
        rw [show num uy um ud + -r = num y m d by omega]
        exact e3 st
      simp [dSeq, dIfS, dNot, dB, dChain, dC, dVar, dRet, dRetN, dNext, dAndV, dOrV, dNotV, dAnd, dOr, dIf, dTru, truD, dBin, dCons, dNil, dTup, dLst, mkL, dCall, dAsg, dAug, dPar, dgName, dgTup, dgCons, dgNil, dDrop, R.bind, R.s, R.b, aLe, aLt, aGt, aGe, aSub, aAdd, aMul, aFdiv, aMod, aEq, aNe, aIsN, aNotN, D.isNon, aAddI, aIx, L2.atI, L2.ixN, beqi, seqA, seqL, seqR, okEq, norm, D.isSc, D.isStr, D.dat, D.dats, D.dep, D.deps, D.eqv, D.eqvs, dRaise, dNeg, bSum, bAbs, bInt, bMax2, bMin2, bLen, intsD, dSl, aSl, dP, dNoP, okMul, fm, fd, l3, l4]
  obtain ⟨oy, om, od, J, hj⟩ := j_onto (num y m d - 1).toNat
  replace hj : jnum oy om od = num y m d := by omega
  have hoy := j_year J (by omega)
  have ⟨jy, jm, jd⟩ := J
  have f1 : ∀ st, f_old_date [.int (num y m d)] st = .ok (.tup [.int oy, .int om, .int od]) st := fun st => by
    rw [← hj]
    exact e_old_date J (g_date _ (by omega) (by omega)) st
  have f2 : ∀ st, f__law_old [.tup [.int oy, .int om, .int od]] st = .ok (.int (num y m d)) st := fun st => by
    rw [e_lold jy (by omega) jm.1 jm.2, hj]
  have f3 := fun st => e_llong oy om true st jm.1 jm.2
  have f4 : ∀ st, f_old_number [.tup [.int oy, .int om, .int od]] st = .ok (.int (num y m d)) st := fun st => by
    rw [e_old_number, if_pos ⟨hoy, J, by omega⟩, hj]
  have k14 : p_law_14 [x0, some (.ref n), some (.tup [.int y, .int m, .int d]), some (.tup [.int y', .int m', .int d']), some (.int (num y m d)), none, some (.int (num y m d - dby y)), some (.tup [.int uy, .int um, .int ud]), some (.int r), o12, none, none, none, none, none] (st.set n (.lst [.int a3, .int b3, .int c3])) = .nx [x0, some (.ref n), some (.tup [.int y, .int m, .int d]), some (.tup [.int y', .int m', .int d']), some (.int (num y m d)), none, some (.int (num y m d - dby y)), some (.tup [.int uy, .int um, .int ud]), some (.int r), o12, some (.tup [.int oy, .int om, .int od]), none, none, none, none] (st.set n (.lst [.int a3, .int b3, .int c3])) := by
    unfold p_law_14
    simp [dSeq, dIfS, dNot, dB, dChain, dC, dVar, dRet, dRetN, dNext, dAndV, dOrV, dNotV, dAnd, dOr, dIf, dTru, truD, dBin, dCons, dNil, dTup, dLst, mkL, dCall, dAsg, dAug, dPar, dgName, dgTup, dgCons, dgNil, dDrop, R.bind, R.s, R.b, aLe, aLt, aGt, aGe, aSub, aAdd, aMul, aFdiv, aMod, aEq, aNe, aIsN, aNotN, D.isNon, aAddI, aIx, L2.atI, L2.ixN, beqi, seqA, seqL, seqR, okEq, norm, D.isSc, D.isStr, D.dat, D.dats, D.dep, D.deps, D.eqv, D.eqvs, dRaise, dNeg, bSum, bAbs, bInt, bMax2, bMin2, bLen, intsD, dSl, aSl, dP, dNoP, okMul, fm, fd, f1]
  have k15 : p_law_15 [x0, some (.ref n), some (.tup [.int y, .int m, .int d]), some (.tup [.int y', .int m', .int d']), some (.int (num y m d)), none, some (.int (num y m d - dby y)), some (.tup [.int uy, .int um, .int ud]), some (.int r), o12, some (.tup [.int oy, .int om, .int od]), none, none, none, none] (st.set n (.lst [.int a3, .int b3, .int c3])) = .nx [x0, some (.ref n), some (.tup [.int y, .int m, .int d]), some (.tup [.int y', .int m', .int d']), some (.int (num y m d)), none, some (.int (num y m d - dby y)), some (.tup [.int uy, .int um, .int ud]), some (.int r), o12, some (.tup [.int oy, .int om, .int od]), none, none, none, none] (st.set n (.lst [.int a3, .int b3, .int c3])) := by
    unfold p_law_15
    simp [dSeq, dIfS, dNot, dB, dChain, dC, dVar, dRet, dRetN, dNext, dAndV, dOrV, dNotV, dAnd, dOr, dIf, dTru, truD, dBin, dCons, dNil, dTup, dLst, mkL, dCall, dAsg, dAug, dPar, dgName, dgTup, dgCons, dgNil, dDrop, R.bind, R.s, R.b, aLe, aLt, aGt, aGe, aSub, aAdd, aMul, aFdiv, aMod, aEq, aNe, aIsN, aNotN, D.isNon, aAddI, aIx, L2.atI, L2.ixN, beqi, seqA, seqL, seqR, okEq, norm, D.isSc, D.isStr, D.dat, D.dats, D.dep, D.deps, D.eqv, D.eqvs, dRaise, dNeg, bSum, bAbs, bInt, bMax2, bMin2, bLen, intsD, dSl, aSl, dP, dNoP, okMul, fm, fd, f2, f3, f4, jd]
  have k16 : p_law_16 [x0, some (.ref n), some (.tup [.int y, .int m, .int d]), some (.tup [.int y', .int m', .int d']), some (.int (num y m d)), none, some (.int (num y m d - dby y)), some (.tup [.int uy, .int um, .int ud]), some (.int r), o12, some (.tup [.int oy, .int om, .int od]), none, none, none, none] (st.set n (.lst [.int a3, .int b3, .int c3])) = .nx [x0, some (.ref n), some (.tup [.int y, .int m, .int d]), some (.tup [.int y', .int m', .int d']), some (.int (num y m d)), none, some (.int (num y m d - dby y)), some (.tup [.int uy, .int um, .int ud]), some (.int r), o12, some (.tup [.int oy, .int om, .int od]), none, none, none, none] (st.set n (.lst [.int a3, .int b3, .int c3])) := by
    unfold p_law_16
    by_cases c : num y m d < 3652059
    · obtain ⟨J2, hj2⟩ := nxt_jv J
      have f5 : ∀ st, f_old_date [.int (num y m d + 1)] st = .ok (tupD (nxt true oy om od)) st := fun st => by
        rw [show num y m d + 1 = jnum (nxt true oy om od).1 (nxt true oy om od).2.1 (nxt true oy om od).2.2 by omega]
        exact e_old_date J2 (g_date _ (by omega) (by omega)) st
      have f6 := fun st => e_lnext oy om od true st jm.1 jm.2
      simp [dSeq, dIfS, dNot, dB, dChain, dC, dVar, dRet, dRetN, dNext, dAndV, dOrV, dNotV, dAnd, dOr, dIf, dTru, truD, dBin, dCons, dNil, dTup, dLst, mkL, dCall, dAsg, dAug, dPar, dgName, dgTup, dgCons, dgNil, dDrop, R.bind, R.s, R.b, aLe, aLt, aGt, aGe, aSub, aAdd, aMul, aFdiv, aMod, aEq, aNe, aIsN, aNotN, D.isNon, aAddI, aIx, L2.atI, L2.ixN, beqi, seqA, seqL, seqR, okEq, norm, D.isSc, D.isStr, D.dat, D.dats, D.dep, D.deps, D.eqv, D.eqvs, dRaise, dNeg, bSum, bAbs, bInt, bMax2, bMin2, bLen, intsD, dSl, aSl, dP, dNoP, okMul, fm, fd, f5, f6, c, tupD]
    · simp [dSeq, dIfS, dNot, dB, dChain, dC, dVar, dRet, dRetN, dNext, dAndV, dOrV, dNotV, dAnd, dOr, dIf, dTru, truD, dBin, dCons, dNil, dTup, dLst, mkL, dCall, dAsg, dAug, dPar, dgName, dgTup, dgCons, dgNil, dDrop, R.bind, R.s, R.b, aLe, aLt, aGt, aGe, aSub, aAdd, aMul, aFdiv, aMod, aEq, aNe, aIsN, aNotN, D.isNon, aAddI, aIx, L2.atI, L2.ixN, beqi, seqA, seqL, seqR, okEq, norm, D.isSc, D.isStr, D.dat, D.dats, D.dep, D.deps, D.eqv, D.eqvs, dRaise, dNeg, bSum, bAbs, bInt, bMax2, bMin2, bLen, intsD, dSl, aSl, dP, dNoP, okMul, fm, fd, c]
  have g1 := fun st => e_lold (y := y) (m := m) (d := d) (by omega) (by omega) hm.1 hm.2 st
  obtain ⟨due, hdue⟩ : ∃ due : D, due = if 1 ≤ jnum y m d then .int (jnum y m d - num y m d) else .str "DayError" := ⟨_, rfl⟩
  have k17 : p_law_17 [x0, some (.ref n), some (.tup [.int y, .int m, .int d]), some (.tup [.int y', .int m', .int d']), some (.int (num y m d)), none, some (.int (num y m d - dby y)), some (.tup [.int uy, .int um, .int ud]), some (.int r), o12, some (.tup [.int oy, .int om, .int od]), none, none, none, none] (st.set n (.lst [.int a3, .int b3, .int c3])) = .nx [x0, some (.ref n), some (.tup [.int y, .int m, .int d]), some (.tup [.int y', .int m', .int d']), some (.int (num y m d)), none, some (.int (num y m d - dby y)), some (.tup [.int uy, .int um, .int ud]), some (.int r), o12, some (.tup [.int oy, .int om, .int od]), some due, none, none, none] (st.set n (.lst [.int a3, .int b3, .int c3])) := by
    unfold p_law_17
    rw [hdue]
    by_cases c : 1 ≤ jnum y m d <;> simp [dSeq, dIfS, dNot, dB, dChain, dC, dVar, dRet, dRetN, dNext, dAndV, dOrV, dNotV, dAnd, dOr, dIf, dTru, truD, dBin, dCons, dNil, dTup, dLst, mkL, dCall, dAsg, dAug, dPar, dgName, dgTup, dgCons, dgNil, dDrop, R.bind, R.s, R.b, aLe, aLt, aGt, aGe, aSub, aAdd, aMul, aFdiv, aMod, aEq, aNe, aIsN, aNotN, D.isNon, aAddI, aIx, L2.atI, L2.ixN, beqi, seqA, seqL, seqR, okEq, norm, D.isSc, D.isStr, D.dat, D.dats, D.dep, D.deps, D.eqv, D.eqvs, dRaise, dNeg, bSum, bAbs, bInt, bMax2, bMin2, bLen, intsD, dSl, aSl, dP, dNoP, okMul, fm, fd, g1, c]
  have k18 : p_law_18 [x0, some (.ref n), some (.tup [.int y, .int m, .int d]), some (.tup [.int y', .int m', .int d']), some (.int (num y m d)), none, some (.int (num y m d - dby y)), some (.tup [.int uy, .int um, .int ud]), some (.int r), o12, some (.tup [.int oy, .int om, .int od]), some due, none, none, none] (st.set n (.lst [.int a3, .int b3, .int c3])) = .nx [x0, some (.ref n), some (.tup [.int y, .int m, .int d]), some (.tup [.int y', .int m', .int d']), some (.int (num y m d)), none, some (.int (num y m d - dby y)), some (.tup [.int uy, .int um, .int ud]), some (.int r), o12, some (.tup [.int oy, .int om, .int od]), some due, none, none, none] (st.set n (.lst [.int a3, .int b3, .int c3])) := by
    unfold p_law_18
    have ct : (["DayError"] : List Str).contains "DayError" = true := by decide +kernel
    have g2 := fun st => e_apart V st
    rw [hdue]
    by_cases c : 1 ≤ jnum y m d <;> simp [dSeq, dIfS, dNot, dB, dChain, dC, dVar, dRet, dRetN, dNext, dAndV, dOrV, dNotV, dAnd, dOr, dIf, dTru, truD, dBin, dCons, dNil, dTup, dLst, mkL, dCall, dAsg, dAug, dPar, dgName, dgTup, dgCons, dgNil, dDrop, R.bind, R.s, R.b, aLe, aLt, aGt, aGe, aSub, aAdd, aMul, aFdiv, aMod, aEq, aNe, aIsN, aNotN, D.isNon, aAddI, aIx, L2.atI, L2.ixN, beqi, seqA, seqL, seqR, okEq, norm, D.isSc, D.isStr, D.dat, D.dats, D.dep, D.deps, D.eqv, D.eqvs, dRaise, dNeg, bSum, bAbs, bInt, bMax2, bMin2, bLen, intsD, dSl, aSl, dP, dNoP, okMul, fm, fd, dTold, g2, c, ct, se]
  have k19 : p_law_19 [x0, some (.ref n), some (.tup [.int y, .int m, .int d]), some (.tup [.int y', .int m', .int d']), some (.int (num y m d)), none, some (.int (num y m d - dby y)), some (.tup [.int uy, .int um, .int ud]), some (.int r), o12, some (.tup [.int oy, .int om, .int od]), some due, none, none, none] (st.set n (.lst [.int a3, .int b3, .int c3])) = .nx [x0, some (.ref n), some (.tup [.int y, .int m, .int d]), some (.tup [.int y', .int m', .int d']), some (.int (num y m d)), some (.int r5), some (.int (num y m d - dby y)), some (.tup [.int uy, .int um, .int ud]), some (.int r), o12, some (.tup [.int oy, .int om, .int od]), some due, some (.int (r4 * 5000)), some (.int r6), none] (st.set n (.lst [.int a6, .int b6, .int c6])) := by
    unfold p_law_19
    simp [dSeq, dIfS, dNot, dB, dChain, dC, dVar, dRet, dRetN, dNext, dAndV, dOrV, dNotV, dAnd, dOr, dIf, dTru, truD, dBin, dCons, dNil, dTup, dLst, mkL, dCall, dAsg, dAug, dPar, dgName, dgTup, dgCons, dgNil, dDrop, R.bind, R.s, R.b, aLe, aLt, aGt, aGe, aSub, aAdd, aMul, aFdiv, aMod, aEq, aNe, aIsN, aNotN, D.isNon, aAddI, aIx, L2.atI, L2.ixN, beqi, seqA, seqL, seqR, okEq, norm, D.isSc, D.isStr, D.dat, D.dats, D.dep, D.deps, D.eqv, D.eqvs, dRaise, dNeg, bSum, bAbs, bInt, bMax2, bMin2, bLen, intsD, dSl, aSl, dP, dNoP, okMul, fm, fd, s4, s5, s6]
  have k20 : p_law_20 [x0, some (.ref n), some (.tup [.int y, .int m, .int d]), some (.tup [.int y', .int m', .int d']), some (.int (num y m d)), some (.int r5), some (.int (num y m d - dby y)), some (.tup [.int uy, .int um, .int ud]), some (.int r), o12, some (.tup [.int oy, .int om, .int od]), some due, some (.int (r4 * 5000)), some (.int r6), none] (st.set n (.lst [.int a6, .int b6, .int c6])) = .nx [x0, some (.ref n), some (.tup [.int y, .int m, .int d]), some (.tup [.int y', .int m', .int d']), some (.int (num y m d)), some (.int r5), some (.int (num y m d - dby y)), some (.tup [.int uy, .int um, .int ud]), some (.int r), o12, some (.tup [.int oy, .int om, .int od]), some due, some (.int (r4 * 5000)), some (.int r6), some (.bl (decide (Val (r4 * 5000) r5 r6)))] (st.set n (.lst [.int a6, .int b6, .int c6])) := by
    unfold p_law_20
    have mx : ∀ i : Int, bMax2 [.int 1, .int i] = fun st => .ok (.int (if i > 1 then i else 1)) st := fun i => rfl
    have mn : ∀ i : Int, bMin2 [.int 12, .int i] = fun st => .ok (.int (if i < 12 then i else 12)) st := fun i => rfl
    by_cases c1 : 1 ≤ r4 * 5000
    · by_cases c2 : r4 * 5000 ≤ 9999
      · by_cases c3 : 1 ≤ r5
        · by_cases c4 : r5 ≤ 12
          · have w1 : (if r4 * 5000 > 1 then r4 * 5000 else 1) = r4 * 5000 := by split <;> omega
            have w2 : (if (if r5 > 1 then r5 else 1) < 12 then (if r5 > 1 then r5 else 1) else 12) = r5 := by split <;> split <;> omega
            have w3 := fun st => e_llong (r4 * 5000) r5 false st c3 c4
            by_cases c5 : 1 ≤ r6 <;> by_cases c6 : r6 ≤ dim (r4 * 5000) r5 <;> simp [dSeq, dIfS, dNot, dB, dChain, dC, dVar, dRet, dRetN, dNext, dAndV, dOrV, dNotV, dAnd, dOr, dIf, dTru, truD, dBin, dCons, dNil, dTup, dLst, mkL, dCall, dAsg, dAug, dPar, dgName, dgTup, dgCons, dgNil, dDrop, R.bind, R.s, R.b, aLe, aLt, aGt, aGe, aSub, aAdd, aMul, aFdiv, aMod, aEq, aNe, aIsN, aNotN, D.isNon, aAddI, aIx, L2.atI, L2.ixN, beqi, seqA, seqL, seqR, okEq, norm, D.isSc, D.isStr, D.dat, D.dats, D.dep, D.deps, D.eqv, D.eqvs, dRaise, dNeg, bSum, bAbs, bInt, bLen, intsD, dSl, aSl, dP, dNoP, okMul, fm, fd, mx, mn, w1, w2, w3, c1, c2, c3, c4, c5, c6, Val, YM]
          · simp [dSeq, dIfS, dNot, dB, dChain, dC, dVar, dRet, dRetN, dNext, dAndV, dOrV, dNotV, dAnd, dOr, dIf, dTru, truD, dBin, dCons, dNil, dTup, dLst, mkL, dCall, dAsg, dAug, dPar, dgName, dgTup, dgCons, dgNil, dDrop, R.bind, R.s, R.b, aLe, aLt, aGt, aGe, aSub, aAdd, aMul, aFdiv, aMod, aEq, aNe, aIsN, aNotN, D.isNon, aAddI, aIx, L2.atI, L2.ixN, beqi, seqA, seqL, seqR, okEq, norm, D.isSc, D.isStr, D.dat, D.dats, D.dep, D.deps, D.eqv, D.eqvs, dRaise, dNeg, bSum, bAbs, bInt, bLen, intsD, dSl, aSl, dP, dNoP, okMul, fm, fd, c1, c2, c3, c4, Val, YM]
        · simp [dSeq, dIfS, dNot, dB, dChain, dC, dVar, dRet, dRetN, dNext, dAndV, dOrV, dNotV, dAnd, dOr, dIf, dTru, truD, dBin, dCons, dNil, dTup, dLst, mkL, dCall, dAsg, dAug, dPar, dgName, dgTup, dgCons, dgNil, dDrop, R.bind, R.s, R.b, aLe, aLt, aGt, aGe, aSub, aAdd, aMul, aFdiv, aMod, aEq, aNe, aIsN, aNotN, D.isNon, aAddI, aIx, L2.atI, L2.ixN, beqi, seqA, seqL, seqR, okEq, norm, D.isSc, D.isStr, D.dat, D.dats, D.dep, D.deps, D.eqv, D.eqvs, dRaise, dNeg, bSum, bAbs, bInt, bLen, intsD, dSl, aSl, dP, dNoP, okMul, fm, fd, c1, c2, c3, Val, YM]
      · simp [dSeq, dIfS, dNot, dB, dChain, dC, dVar, dRet, dRetN, dNext, dAndV, dOrV, dNotV, dAnd, dOr, dIf, dTru, truD, dBin, dCons, dNil, dTup, dLst, mkL, dCall, dAsg, dAug, dPar, dgName, dgTup, dgCons, dgNil, dDrop, R.bind, R.s, R.b, aLe, aLt, aGt, aGe, aSub, aAdd, aMul, aFdiv, aMod, aEq, aNe, aIsN, aNotN, D.isNon, aAddI, aIx, L2.atI, L2.ixN, beqi, seqA, seqL, seqR, okEq, norm, D.isSc, D.isStr, D.dat, D.dats, D.dep, D.deps, D.eqv, D.eqvs, dRaise, dNeg, bSum, bAbs, bInt, bLen, intsD, dSl, aSl, dP, dNoP, okMul, fm, fd, c1, c2, Val, YM]
    · simp [dSeq, dIfS, dNot, dB, dChain, dC, dVar, dRet, dRetN, dNext, dAndV, dOrV, dNotV, dAnd, dOr, dIf, dTru, truD, dBin, dCons, dNil, dTup, dLst, mkL, dCall, dAsg, dAug, dPar, dgName, dgTup, dgCons, dgNil, dDrop, R.bind, R.s, R.b, aLe, aLt, aGt, aGe, aSub, aAdd, aMul, aFdiv, aMod, aEq, aNe, aIsN, aNotN, D.isNon, aAddI, aIx, L2.atI, L2.ixN, beqi, seqA, seqL, seqR, okEq, norm, D.isSc, D.isStr, D.dat, D.dats, D.dep, D.deps, D.eqv, D.eqvs, dRaise, dNeg, bSum, bAbs, bInt, bLen, intsD, dSl, aSl, dP, dNoP, okMul, fm, fd, c1, Val, YM]
  have k21 : p_law_21 [x0, some (.ref n), some (.tup [.int y, .int m, .int d]), some (.tup [.int y', .int m', .int d']), some (.int (num y m d)), some (.int r5), some (.int (num y m d - dby y)), some (.tup [.int uy, .int um, .int ud]), some (.int r), o12, some (.tup [.int oy, .int om, .int od]), some due, some (.int (r4 * 5000)), some (.int r6), some (.bl (decide (Val (r4 * 5000) r5 r6)))] (st.set n (.lst [.int a6, .int b6, .int c6])) = .nx [x0, some (.ref n), some (.tup [.int y, .int m, .int d]), some (.tup [.int y', .int m', .int d']), some (.int (num y m d)), some (.int r5), some (.int (num y m d - dby y)), some (.tup [.int uy, .int um, .int ud]), some (.int r), o12, some (.tup [.int oy, .int om, .int od]), some due, some (.int (r4 * 5000)), some (.int r6), some (.bl (decide (Val (r4 * 5000) r5 r6)))] (st.set n (.lst [.int a6, .int b6, .int c6])) := by
    unfold p_law_21
    have ct : (["DayError"] : List Str).contains "DayError" = true := by decide +kernel
    by_cases c : Val (r4 * 5000) r5 r6 <;> simp [dSeq, dIfS, dNot, dB, dChain, dC, dVar, dRet, dRetN, dNext, dAndV, dOrV, dNotV, dAnd, dOr, dIf, dTru, truD, dBin, dCons, dNil, dTup, dLst, mkL, dCall, dAsg, dAug, dPar, dgName, dgTup, dgCons, dgNil, dDrop, R.bind, R.s, R.b, aLe, aLt, aGt, aGe, aSub, aAdd, aMul, aFdiv, aMod, aEq, aNe, aIsN, aNotN, D.isNon, aAddI, aIx, L2.atI, L2.ixN, beqi, seqA, seqL, seqR, okEq, norm, D.isSc, D.isStr, D.dat, D.dats, D.dep, D.deps, D.eqv, D.eqvs, dRaise, dNeg, bSum, bAbs, bInt, bMax2, bMin2, bLen, intsD, dSl, aSl, dP, dNoP, okMul, fm, fd, dTold, e_num, c, ct, se]
  refine ⟨[x0, some (.ref n), some (.tup [.int y, .int m, .int d]), some (.tup [.int y', .int m', .int d']), some (.int (num y m d)), some (.int r5), some (.int (num y m d - dby y)), some (.tup [.int uy, .int um, .int ud]), some (.int r), o12, some (.tup [.int oy, .int om, .int od]), some due, some (.int (r4 * 5000)), some (.int r6), some (.bl (decide (Val (r4 * 5000) r5 r6)))], a6, b6, c6, ?_⟩
  unfold l_law_2
  simp only [dSeq, k1, k2, k3, k4, k5, k6, k7, k8, k9, k10, k11, k12, k13, k14, k15, k16, k17, k18, k19, k20, k21]
end K01

namespace K01
open PySem G
theorem plain (st : Store) : f__law_plain [] st = .ok (.bl true) st := by kernel_rfl
theorem e_dice (i : Int) (st : Store) : ∃ a b c : Int, f__law_dice [.int i] st = .ok (.ref st.length) (st ++ [.lst [.int a, .int b, .int c]]) := by
  unfold f__law_dice b__law_dice runB
  by_cases h1 : -10 < i
  · by_cases h2 : i < 10
    · exact ⟨if i < 0 then -i else i, 0, 2, by simp [dSeq, dIfS, dNot, dB, dChain, dC, dVar, dRet, dRetN, dNext, dAndV, dOrV, dNotV, dAnd, dOr, dIf, dTru, truD, dBin, dCons, dNil, dTup, dLst, mkL, dCall, dAsg, dAug, dPar, dgName, dgTup, dgCons, dgNil, dDrop, R.bind, R.s, R.b, aLe, aLt, aGt, aGe, aSub, aAdd, aMul, aFdiv, aMod, aEq, aNe, aIsN, aNotN, D.isNon, aAddI, aIx, L2.atI, L2.ixN, beqi, seqA, seqL, seqR, okEq, norm, D.isSc, D.isStr, D.dat, D.dats, D.dep, D.deps, D.eqv, D.eqvs, dRaise, dNeg, bSum, bAbs, bInt, bMax2, bMin2, bLen, intsD, dSl, aSl, dP, dNoP, okMul, fm, fd, h1, h2]⟩
    · exact ⟨i, 1 + i.fmod 1009, if 1000000000000000000 ≤ i then 1 else 0, by simp [dSeq, dIfS, dNot, dB, dChain, dC, dVar, dRet, dRetN, dNext, dAndV, dOrV, dNotV, dAnd, dOr, dIf, dTru, truD, dBin, dCons, dNil, dTup, dLst, mkL, dCall, dAsg, dAug, dPar, dgName, dgTup, dgCons, dgNil, dDrop, R.bind, R.s, R.b, aLe, aLt, aGt, aGe, aSub, aAdd, aMul, aFdiv, aMod, aEq, aNe, aIsN, aNotN, D.isNon, aAddI, aIx, L2.atI, L2.ixN, beqi, seqA, seqL, seqR, okEq, norm, D.isSc, D.isStr, D.dat, D.dats, D.dep, D.deps, D.eqv, D.eqvs, dRaise, dNeg, bSum, bAbs, bInt, bMax2, bMin2, bLen, intsD, dSl, aSl, dP, dNoP, okMul, fm, fd, aPow, h1, h2]⟩
  · exact ⟨i, 1 + i.fmod 1009, if 1000000000000000000 ≤ i then 1 else 0, by simp [dSeq, dIfS, dNot, dB, dChain, dC, dVar, dRet, dRetN, dNext, dAndV, dOrV, dNotV, dAnd, dOr, dIf, dTru, truD, dBin, dCons, dNil, dTup, dLst, mkL, dCall, dAsg, dAug, dPar, dgName, dgTup, dgCons, dgNil, dDrop, R.bind, R.s, R.b, aLe, aLt, aGt, aGe, aSub, aAdd, aMul, aFdiv, aMod, aEq, aNe, aIsN, aNotN, D.isNon, aAddI, aIx, L2.atI, L2.ixN, beqi, seqA, seqL, seqR, okEq, norm, D.isSc, D.isStr, D.dat, D.dats, D.dep, D.deps, D.eqv, D.eqvs, dRaise, dNeg, bSum, bAbs, bInt, bMax2, bMin2, bLen, intsD, dSl, aSl, dP, dNoP, okMul, fm, fd, aPow, h1]⟩
theorem e_rounds (ns : List Int) : ∃ a b c : Int, f__law_rounds [.scr ns, .int 1] [] = .ok (.lst [.ref 0]) [.lst [.int a, .int b, .int c]] := by
  unfold f__law_rounds b__law_rounds runB
  cases ns with
  | nil =>
    obtain ⟨a, b, c, e⟩ := e_dice 0 []
    exact ⟨a, b, c, by simp [dSeq, dIfS, dNot, dB, dChain, dC, dVar, dRet, dRetN, dNext, dAndV, dOrV, dNotV, dAnd, dOr, dIf, dTru, truD, dBin, dCons, dNil, dTup, dLst, mkL, dCall, dAsg, dAug, dPar, dgName, dgTup, dgCons, dgNil, dDrop, R.bind, R.s, R.b, aLe, aLt, aGt, aGe, aSub, aAdd, aMul, aFdiv, aMod, aEq, aNe, aIsN, aNotN, D.isNon, aAddI, aIx, L2.atI, L2.ixN, beqi, seqA, seqL, seqR, okEq, norm, D.isSc, D.isStr, D.dat, D.dats, D.dep, D.deps, D.eqv, D.eqvs, dRaise, dNeg, bSum, bAbs, bInt, bMax2, bMin2, bLen, intsD, dSl, aSl, dP, dNoP, okMul, fm, fd, HT.sIx, cutD, dLc, dIt, gdOf, lcD, gdOk, y__law_rounds_1, dYes, wipeE, e, lstAt]⟩
  | cons i r =>
    obtain ⟨a, b, c, e⟩ := e_dice i []
    have h1 : min 1 (r.length + 1) = 1 := by omega
    exact ⟨a, b, c, by simp [dSeq, dIfS, dNot, dB, dChain, dC, dVar, dRet, dRetN, dNext, dAndV, dOrV, dNotV, dAnd, dOr, dIf, dTru, truD, dBin, dCons, dNil, dTup, dLst, mkL, dCall, dAsg, dAug, dPar, dgName, dgTup, dgCons, dgNil, dDrop, R.bind, R.s, R.b, aLe, aLt, aGt, aGe, aSub, aAdd, aMul, aFdiv, aMod, aEq, aNe, aIsN, aNotN, D.isNon, aAddI, aIx, L2.atI, L2.ixN, beqi, seqA, seqL, seqR, okEq, norm, D.isSc, D.isStr, D.dat, D.dats, D.dep, D.deps, D.eqv, D.eqvs, dRaise, dNeg, bSum, bAbs, bInt, bMax2, bMin2, bLen, intsD, dSl, aSl, dP, dNoP, okMul, fm, fd, HT.sIx, cutD, dLc, dIt, gdOf, lcD, gdOk, y__law_rounds_1, dYes, wipeE, e, lstAt, h1]⟩
theorem law_true : ∀ ns : List Int, ns.length ≤ 63 → ∃ st, f_law [.scr ns] [] = .ok (.bl true) st := by
  intro ns _
  obtain ⟨a, b, c, e⟩ := e_rounds ns
  obtain ⟨env, a1, b1, c1, t⟩ := turn (st := [.lst [.int a, .int b, .int c]]) (n := 0) (a := a) (b := b) (c := c) (some (.scr ns)) rfl
  unfold f_law b_law runB
  refine ⟨[.lst [.int a1, .int b1, .int c1]], ?_⟩
  simp at t
  simp [dSeq, dIfS, dNot, dB, dChain, dC, dVar, dRet, dRetN, dNext, dAndV, dOrV, dNotV, dAnd, dOr, dIf, dTru, truD, dBin, dCons, dNil, dTup, dLst, mkL, dCall, dAsg, dAug, dPar, dgName, dgTup, dgCons, dgNil, dDrop, R.bind, R.s, R.b, aLe, aLt, aGt, aGe, aSub, aAdd, aMul, aFdiv, aMod, aEq, aNe, aIsN, aNotN, D.isNon, aAddI, aIx, L2.atI, L2.ixN, beqi, seqA, seqL, seqR, okEq, norm, D.isSc, D.isStr, D.dat, D.dats, D.dep, D.deps, D.eqv, D.eqvs, dRaise, dNeg, bSum, bAbs, bInt, bMax2, bMin2, bLen, intsD, dSl, aSl, dP, dNoP, okMul, fm, fd, dFor, dIt, gdOf, e, forD, gdOk, t, loopK, plain]
end K01

namespace K01
open PySem G
/-! the end -/
def gaT : List (Str × Addr) := [("DayError", 37)]
def cpT : List (Str × (Addr × Addr)) := [("_law_plain", (228, 226)), ("law", (233, 231))]
def lamT (n : Nat) : Option LamI := match n with
  | 0 => some lam_0
  | 1 => some lam_1
  | 2 => some lam_2
  | 3 => some lam_3
  | 4 => some lam_4
  | 5 => some lam_5
  | 6 => some lam_6
  | 7 => some lam_7
  | 8 => some lam_8
  | 9 => some lam_9
  | 10 => some lam_10
  | 11 => some lam_11
  | 12 => some lam_12
  | 13 => some lam_13
  | 14 => some lam_14
  | 15 => some lam_15
  | 16 => some lam_16
  | 17 => some lam_17
  | 18 => some lam_18
  | 19 => some lam_19
  | 20 => some lam_20
  | 21 => some lam_21
  | 22 => some lam_22
  | 23 => some lam_23
  | _ => none
def gOf (K : PySem.W.Frag) : GC := ⟨K, fun x => (gaT.lookup x).getD 0, [(226, (("_law_plain" : Str) ++ ".<locals>.") ++ "<lambda>"), (231, (("law" : Str) ++ ".<locals>.") ++ "<lambda>")], lamT, fun x => (cpT.lookup x).getD (0, 0)⟩
abbrev gX {K : PySem.W.Frag} {h : Heap} (_ : K.In h) : GC := gOf K
theorem ga_DayError (K : PySem.W.Frag) : (gOf K).ga "DayError" = 37 := by show (gaT.lookup ("DayError" : Str)).getD 0 = 37; decide +kernel
theorem cp__law_plain (K : PySem.W.Frag) : (gOf K).cp "_law_plain" = (228, 226) := by show (cpT.lookup ("_law_plain" : Str)).getD (0, 0) = (228, 226); decide +kernel
theorem cp_law (K : PySem.W.Frag) : (gOf K).cp "law" = (233, 231) := by show (cpT.lookup ("law" : Str)).getD (0, 0) = (233, 231); decide +kernel
theorem law_fin {K : PySem.W.Frag} {h : Heap} {w : World} {mg : PySem.Str → Option Value} {fa : Addr} (KX : K.In h) (G₀ : h.Ns mainGlobals mg) (hmg : mg "law" = some (.ref fa)) (T : Txt (gX KX) mg) {oc kV doc pm ct : Value} {od an : Option Addr} {osl : Array (Option Value)}
    (a : PySem.W.nsIn K mainGlobals "law" = some (some (.ref 234))) (lk : K.lookup 234 = some ⟨oc, od, .func (PySem.W.fnOf "law" "law" (L2.defArgs s_law) (L2.defBody s_law) (L2.defScope s_law) .none kV doc pm an (.ref 233) ct), osl⟩) (hcd : PySem.W.codeIn K (.ref 233) "law" = true)
    (hT : ∀ p ∈ ([(228, 226), (233, 231)] : List (Addr × Addr)), h.get? p.2 = some { cls := .none, data := .fields #[] }) (nT : ∀ p ∈ ([(228, 226), (233, 231)] : List (Addr × Addr)), K.lookup p.2 = none) (C : ∀ p ∈ ([(228, 226), (233, 231)] : List (Addr × Addr)), PySem.W.CodeHd h p.1 p.2) :
    LamX.LawAtS PySem.Challenge.rw_clockstack_k01_days_and_their_dates w K (L2.CX PySem.Challenge.rw_clockstack_k01_days_and_their_dates.prog w) 11 63 "script" mg fa h := by
  refine law_end (fL := 234) (cL := 233) (s := s_law) (x := "script") (g := gX KX) (f := f_law) [(228, 226), (233, 231)] KX G₀ rfl hmg a lk hcd hT nT C (fun us hl => match us, hl with | [_], _ => rfl) ?hg law_true ?hF
  case hg =>
    intro p hp
    simp only [gOf, List.mem_cons, List.not_mem_nil, or_false] at hp
    rcases hp with rfl | rfl
    · exact ⟨(228, 226), by simp, rfl⟩
    · exact ⟨(233, 231), by simp, rfl⟩
  case hF =>
    intro base KB GB TB lk hcd
    have B : Tbs (gX KX) mg base := { t__law_plain := tabB_cast (cp__law_plain _) (TB (228, 226) (by simp)), t_law := tabB_cast (cp_law _) (TB (233, 231) (by simp)) }
    exact ok_law T B (congrArg Prod.fst (cp_law _)) lk hcd
end K01
open PySem PySem.W PyProof.Rows
open G K01 in
set_option maxRecDepth 100000 in
set_option maxHeartbeats 0 in
theorem PySem.Challenge.cw_clockstack_k01_days_and_their_dates_holds : PySem.Challenge.rw_clockstack_k01_days_and_their_dates.Holds := by
  w_on; o_law
  k_head
  (case hw => w_witness2)
  k_fill
  refine LamX.walk_ofTs (l := PySem.Challenge.rw_clockstack_k01_days_and_their_dates) (n := 63) (k := 11) (x := "script") (CX := fun w => L2.CX (PySem.Challenge.rw_clockstack_k01_days_and_their_dates).prog w) rfl (by decide) rfl ⟨rfl, by decide, by decide⟩ (fun w h Y => km_in_of Y) ?F ?C
  case C =>
    intro w H s e s' q
    obtain ⟨_, _, _, _, _, _, _, _, _, _, _, _, q⟩ := q
    exact q
  case F =>
    intro w mg fa h Y KX G₀ hmg
    have hT8 := km_tabs_of Y
    have e_DayError : ExD (gX KX) mg "DayError" := by
      refine' exD_mk (C := 37) KX G₀ rfl (ga_DayError _) ?a ?b ?c ?d ?e
      (case a => k_is)
      (case b => k_exc)
      (case c => k_is)
      (case d => k_is)
      (case e => k_is)
    have g_MONTH_LENGTHS : Glob (gX KX) mg "MONTH_LENGTHS" c_MONTH_LENGTHS := by
      refine' glob_mk KX G₀ rfl ?a ?b
      (case a => k_is)
      (case b => kernel_rfl)
    have g_MOST_YEAR : Glob (gX KX) mg "MOST_YEAR" c_MOST_YEAR := by
      refine' glob_mk KX G₀ rfl ?a ?b
      (case a => k_is)
      (case b => kernel_rfl)
    have g_WEEKDAYS : Glob (gX KX) mg "WEEKDAYS" c_WEEKDAYS := by
      refine' glob_mk KX G₀ rfl ?a ?b
      (case a => k_is)
      (case b => kernel_rfl)
    have n_abs : mg "abs" = none := by
      refine' none_mk KX G₀ ?a
      (case a => k_is)
    have n_int : mg "int" = none := by
      refine' none_mk KX G₀ ?a
      (case a => k_is)
    have n_max : mg "max" = none := by
      refine' none_mk KX G₀ ?a
      (case a => k_is)
    have n_min : mg "min" = none := by
      refine' none_mk KX G₀ ?a
      (case a => k_is)
    have n_range : mg "range" = none := by
      refine' none_mk KX G₀ ?a
      (case a => k_is)
    have n_sum : mg "sum" = none := by
      refine' none_mk KX G₀ ?a
      (case a => k_is)
    have catch_DayError : Catches (gX KX) "DayError" [("DayError", true)] := by
      intro p hp
      simp only [List.mem_cons, List.not_mem_nil, or_false] at hp
      rcases hp with rfl
      · show PySem.W.exmOne _ (.ref ((gOf _).ga "DayError")) (.ref ((gOf _).ga "DayError")) = _
        rw [ga_DayError]
        refine' exm_one ?a ?b ?c ?d
        (case a => first | k_is | kernel_rfl)
        (case b => first | k_is | kernel_rfl)
        (case c => first | k_is | kernel_rfl)
        (case d => first | k_is | kernel_rfl)
    have told : ToldD (gX KX) mg "_law_told" "DayError" "DayError" := by
      refine' told_mk (st := s__law_told) (a := "what") (Ng := ["what"]) KX G₀ rfl ?a ?b ?c ?d (fun us hl => match us, hl with | [_], _ => rfl) sc__law_told rfl ?v (fun _ => rfl) ⟨_, _, _, _, _, _, _, _, _, rfl⟩ rfl (by decide) (by decide) (by decide) (by decide)
      (case a => k_is)
      (case b => k_is)
      (case c => k_is)
      (case d => k_is)
      (case v => exact .inl rfl)
    have c_told : Catches (gX KX) "DayError" [("DayError", true)] := by
      intro p hp
      simp only [List.mem_cons, List.not_mem_nil, or_false] at hp
      rcases hp with rfl
      · show PySem.W.exmOne _ (.ref ((gOf _).ga "DayError")) (.ref ((gOf _).ga "DayError")) = _
        rw [ga_DayError]
        refine' exm_one ?a ?b ?c ?d
        (case a => first | k_is | kernel_rfl)
        (case b => first | k_is | kernel_rfl)
        (case c => first | k_is | kernel_rfl)
        (case d => first | k_is | kernel_rfl)
    have d_is_leap : DefD (gX KX) mg "is_leap" s_is_leap ["year"] := by
      refine' defD_mk KX G₀ rfl ?a ?b ?c ?d (fun us hl => match us, hl with | [_], _ => rfl)
      (case a => k_is)
      (case b => k_is)
      (case c => k_is)
      (case d => k_is)
    have d_days_in_month : DefD (gX KX) mg "days_in_month" s_days_in_month ["year", "month"] := by
      refine' defD_mk KX G₀ rfl ?a ?b ?c ?d (fun us hl => match us, hl with | [_, _], _ => rfl)
      (case a => k_is)
      (case b => k_is)
      (case c => k_is)
      (case d => k_is)
    have d_check_date : DefD (gX KX) mg "check_date" s_check_date ["date"] := by
      refine' defD_mk KX G₀ rfl ?a ?b ?c ?d (fun us hl => match us, hl with | [_], _ => rfl)
      (case a => k_is)
      (case b => k_is)
      (case c => k_is)
      (case d => k_is)
    have d_days_before_year : DefD (gX KX) mg "days_before_year" s_days_before_year ["year"] := by
      refine' defD_mk KX G₀ rfl ?a ?b ?c ?d (fun us hl => match us, hl with | [_], _ => rfl)
      (case a => k_is)
      (case b => k_is)
      (case c => k_is)
      (case d => k_is)
    have d_day_number : DefD (gX KX) mg "day_number" s_day_number ["date"] := by
      refine' defD_mk KX G₀ rfl ?a ?b ?c ?d (fun us hl => match us, hl with | [_], _ => rfl)
      (case a => k_is)
      (case b => k_is)
      (case c => k_is)
      (case d => k_is)
    have d_check_number : DefD (gX KX) mg "check_number" s_check_number ["number"] := by
      refine' defD_mk KX G₀ rfl ?a ?b ?c ?d (fun us hl => match us, hl with | [_], _ => rfl)
      (case a => k_is)
      (case b => k_is)
      (case c => k_is)
      (case d => k_is)
    have d_date_of : DefD (gX KX) mg "date_of" s_date_of ["number"] := by
      refine' defD_mk KX G₀ rfl ?a ?b ?c ?d (fun us hl => match us, hl with | [_], _ => rfl)
      (case a => k_is)
      (case b => k_is)
      (case c => k_is)
      (case d => k_is)
    have d_weekday_of : DefD (gX KX) mg "weekday_of" s_weekday_of ["number"] := by
      refine' defD_mk KX G₀ rfl ?a ?b ?c ?d (fun us hl => match us, hl with | [_], _ => rfl)
      (case a => k_is)
      (case b => k_is)
      (case c => k_is)
      (case d => k_is)
    have d_day_of_year : DefD (gX KX) mg "day_of_year" s_day_of_year ["date"] := by
      refine' defD_mk KX G₀ rfl ?a ?b ?c ?d (fun us hl => match us, hl with | [_], _ => rfl)
      (case a => k_is)
      (case b => k_is)
      (case c => k_is)
      (case d => k_is)
    have d_by_day_of_year : DefD (gX KX) mg "by_day_of_year" s_by_day_of_year ["year", "place"] := by
      refine' defD_mk KX G₀ rfl ?a ?b ?c ?d (fun us hl => match us, hl with | [_, _], _ => rfl)
      (case a => k_is)
      (case b => k_is)
      (case c => k_is)
      (case d => k_is)
    have d_days_from : DefD (gX KX) mg "days_from" s_days_from ["one", "other"] := by
      refine' defD_mk KX G₀ rfl ?a ?b ?c ?d (fun us hl => match us, hl with | [_, _], _ => rfl)
      (case a => k_is)
      (case b => k_is)
      (case c => k_is)
      (case d => k_is)
    have d_later : DefD (gX KX) mg "later" s_later ["date", "days"] := by
      refine' defD_mk KX G₀ rfl ?a ?b ?c ?d (fun us hl => match us, hl with | [_, _], _ => rfl)
      (case a => k_is)
      (case b => k_is)
      (case c => k_is)
      (case d => k_is)
    have d_old_number : DefD (gX KX) mg "old_number" s_old_number ["date"] := by
      refine' defD_mk KX G₀ rfl ?a ?b ?c ?d (fun us hl => match us, hl with | [_], _ => rfl)
      (case a => k_is)
      (case b => k_is)
      (case c => k_is)
      (case d => k_is)
    have d_old_date : DefD (gX KX) mg "old_date" s_old_date ["number"] := by
      refine' defD_mk KX G₀ rfl ?a ?b ?c ?d (fun us hl => match us, hl with | [_], _ => rfl)
      (case a => k_is)
      (case b => k_is)
      (case c => k_is)
      (case d => k_is)
    have d_month_length_old : DefD (gX KX) mg "month_length_old" s_month_length_old ["year", "month"] := by
      refine' defD_mk KX G₀ rfl ?a ?b ?c ?d (fun us hl => match us, hl with | [_, _], _ => rfl)
      (case a => k_is)
      (case b => k_is)
      (case c => k_is)
      (case d => k_is)
    have d_apart_calendars : DefD (gX KX) mg "apart_calendars" s_apart_calendars ["date"] := by
      refine' defD_mk KX G₀ rfl ?a ?b ?c ?d (fun us hl => match us, hl with | [_], _ => rfl)
      (case a => k_is)
      (case b => k_is)
      (case c => k_is)
      (case d => k_is)
    have d_is_ahead : DefD (gX KX) mg "is_ahead" s_is_ahead ["one", "other"] := by
      refine' defD_mk KX G₀ rfl ?a ?b ?c ?d (fun us hl => match us, hl with | [_, _], _ => rfl)
      (case a => k_is)
      (case b => k_is)
      (case c => k_is)
      (case d => k_is)
    have d__law_dice : DefD (gX KX) mg "_law_dice" s__law_dice ["cell"] := by
      refine' defD_mk KX G₀ rfl ?a ?b ?c ?d (fun us hl => match us, hl with | [_], _ => rfl)
      (case a => k_is)
      (case b => k_is)
      (case c => k_is)
      (case d => k_is)
    have d__law_roll : DefD (gX KX) mg "_law_roll" s__law_roll ["dice", "many"] := by
      refine' defD_mk KX G₀ rfl ?a ?b ?c ?d (fun us hl => match us, hl with | [_, _], _ => rfl)
      (case a => k_is)
      (case b => k_is)
      (case c => k_is)
      (case d => k_is)
    have d__law_rounds : DefD (gX KX) mg "_law_rounds" s__law_rounds ["script", "most"] := by
      refine' defD_mk KX G₀ rfl ?a ?b ?c ?d (fun us hl => match us, hl with | [_, _], _ => rfl)
      (case a => k_is)
      (case b => k_is)
      (case c => k_is)
      (case d => k_is)
    have d__law_told : DefD (gX KX) mg "_law_told" s__law_told ["what"] := by
      refine' defD_mk KX G₀ rfl ?a ?b ?c ?d (fun us hl => match us, hl with | [_], _ => rfl)
      (case a => k_is)
      (case b => k_is)
      (case c => k_is)
      (case d => k_is)
    have d__law_leap : DefD (gX KX) mg "_law_leap" s__law_leap ["year", "is_old"] := by
      refine' defD_mk KX G₀ rfl ?a ?b ?c ?d (fun us hl => match us, hl with | [_, _], _ => rfl)
      (case a => k_is)
      (case b => k_is)
      (case c => k_is)
      (case d => k_is)
    have d__law_long : DefD (gX KX) mg "_law_long" s__law_long ["year", "month", "is_old"] := by
      refine' defD_mk KX G₀ rfl ?a ?b ?c ?d (fun us hl => match us, hl with | [_, _, _], _ => rfl)
      (case a => k_is)
      (case b => k_is)
      (case c => k_is)
      (case d => k_is)
    have d__law_next : DefD (gX KX) mg "_law_next" s__law_next ["date", "is_old"] := by
      refine' defD_mk KX G₀ rfl ?a ?b ?c ?d (fun us hl => match us, hl with | [_, _], _ => rfl)
      (case a => k_is)
      (case b => k_is)
      (case c => k_is)
      (case d => k_is)
    have d__law_number : DefD (gX KX) mg "_law_number" s__law_number ["date"] := by
      refine' defD_mk KX G₀ rfl ?a ?b ?c ?d (fun us hl => match us, hl with | [_], _ => rfl)
      (case a => k_is)
      (case b => k_is)
      (case c => k_is)
      (case d => k_is)
    have d__law_old : DefD (gX KX) mg "_law_old" s__law_old ["date"] := by
      refine' defD_mk KX G₀ rfl ?a ?b ?c ?d (fun us hl => match us, hl with | [_], _ => rfl)
      (case a => k_is)
      (case b => k_is)
      (case c => k_is)
      (case d => k_is)
    have d__law_date : DefD (gX KX) mg "_law_date" s__law_date ["dice"] := by
      refine' defD_mk KX G₀ rfl ?a ?b ?c ?d (fun us hl => match us, hl with | [_], _ => rfl)
      (case a => k_is)
      (case b => k_is)
      (case c => k_is)
      (case d => k_is)
    have d__law_plain : DefL (gX KX) mg "_law_plain" s__law_plain [] := by
      refine' defL_mk (cA := 228) KX G₀ rfl (congrArg Prod.fst (cp__law_plain _)) ?a ?b ?c ?d (fun us hl => match us, hl with | [], _ => rfl)
      (case a => k_is)
      (case b => k_is)
      (case c => k_is)
      (case d => k_is)
    have mT__law_plain : (((gX KX).cp "_law_plain").2, (("_law_plain" : Str) ++ ".<locals>.") ++ "<lambda>") ∈ (gX KX).T := by
      rw [show (gX KX).cp "_law_plain" = _ from cp__law_plain _]
      simp [gOf]
    have hu__law_plain : ∀ p ∈ (gX KX).T, p.1 = ((gX KX).cp "_law_plain").2 → p.2 = (("_law_plain" : Str) ++ ".<locals>.") ++ "<lambda>" := by
      rw [show (gX KX).cp "_law_plain" = _ from cp__law_plain _]
      intro p hp e
      simp only [gOf, List.mem_cons, List.not_mem_nil, or_false] at hp
      rcases hp with rfl | rfl
      all_goals first | (exact absurd e (by decide)) | rfl
    have mT_law : (((gX KX).cp "law").2, (("law" : Str) ++ ".<locals>.") ++ "<lambda>") ∈ (gX KX).T := by
      rw [show (gX KX).cp "law" = _ from cp_law _]
      simp [gOf]
    have hu_law : ∀ p ∈ (gX KX).T, p.1 = ((gX KX).cp "law").2 → p.2 = (("law" : Str) ++ ".<locals>.") ++ "<lambda>" := by
      rw [show (gX KX).cp "law" = _ from cp_law _]
      intro p hp e
      simp only [gOf, List.mem_cons, List.not_mem_nil, or_false] at hp
      rcases hp with rfl | rfl
      all_goals first | (exact absurd e (by decide)) | rfl
    have lam_no : ∀ n, 24 ≤ n → (gX KX).lam n = none := by
      intro n hn
      show lamT n = none
      obtain ⟨k, rfl⟩ := Nat.exists_eq_add_of_le hn
      rw [Nat.add_comm]
      rfl
    have T : Txt (gX KX) mg := { e_DayError := e_DayError, g_MONTH_LENGTHS := g_MONTH_LENGTHS, g_MOST_YEAR := g_MOST_YEAR, g_WEEKDAYS := g_WEEKDAYS, n_abs := n_abs, n_int := n_int, n_max := n_max, n_min := n_min, n_range := n_range, n_sum := n_sum, catch_DayError := catch_DayError, told := told, c_told := c_told, d_is_leap := d_is_leap, d_days_in_month := d_days_in_month, d_check_date := d_check_date, d_days_before_year := d_days_before_year, d_day_number := d_day_number, d_check_number := d_check_number, d_date_of := d_date_of, d_weekday_of := d_weekday_of, d_day_of_year := d_day_of_year, d_by_day_of_year := d_by_day_of_year, d_days_from := d_days_from, d_later := d_later, d_old_number := d_old_number, d_old_date := d_old_date, d_month_length_old := d_month_length_old, d_apart_calendars := d_apart_calendars, d_is_ahead := d_is_ahead, d__law_dice := d__law_dice, d__law_roll := d__law_roll, d__law_rounds := d__law_rounds, d__law_told := d__law_told, d__law_leap := d__law_leap, d__law_long := d__law_long, d__law_next := d__law_next, d__law_number := d__law_number, d__law_old := d__law_old, d__law_date := d__law_date, d__law_plain := d__law_plain, mT__law_plain := mT__law_plain, hu__law_plain := hu__law_plain, mT_law := mT_law, hu_law := hu_law, l_0 := rfl, l_1 := rfl, l_2 := rfl, l_3 := rfl, l_4 := rfl, l_5 := rfl, l_6 := rfl, l_7 := rfl, l_8 := rfl, l_9 := rfl, l_10 := rfl, l_11 := rfl, l_12 := rfl, l_13 := rfl, l_14 := rfl, l_15 := rfl, l_16 := rfl, l_17 := rfl, l_18 := rfl, l_19 := rfl, l_20 := rfl, l_21 := rfl, l_22 := rfl, l_23 := rfl, lam_no := lam_no }
    have hT : ∀ p ∈ ([(228, 226), (233, 231)] : List (Addr × Addr)), h.get? p.2 = some { cls := .none, data := .fields #[] } := by
      intro p hp; simp only [List.mem_cons, List.not_mem_nil, or_false] at hp
      rcases hp with rfl | rfl
      all_goals exact hT8 _ (by simp)
    have C : ∀ p ∈ ([(228, 226), (233, 231)] : List (Addr × Addr)), PySem.W.CodeHd h p.1 p.2 := by
      intro p hp; simp only [List.mem_cons, List.not_mem_nil, or_false] at hp
      rcases hp with rfl | rfl
      · exact codeHd_of_K (c := 228) (P := 226) KX (by kernel_rfl)
      · exact codeHd_of_K (c := 233) (P := 231) KX (by kernel_rfl)
    refine' law_fin KX G₀ hmg T ?a ?b ?c hT ?nT C
    (case a => k_is)
    (case b => k_is)
    (case c => k_is)
    case nT =>
      intro p hp; simp only [List.mem_cons, List.not_mem_nil, or_false] at hp
      rcases hp with rfl | rfl
      all_goals kernel_rfl
