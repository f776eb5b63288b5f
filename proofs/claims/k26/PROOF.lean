import PyProof.Rows.All
import Wide.All
import OpenK.AllK
import Wide.FinOn
import HandS.ForMost
import HandS.Exc
import HandS.EndBits
import HandS.Wide
import HandS.TupAny
import HandS.TupMul
import HandS.Deep
import HandS.FStr
import HandS.RaiseMore
import HandS.IsInst
import HandS.WordsExc
import HandS.ExcOwn
import HandS.Comp
import PyProof.CallFns
import PySem.Challenge.RW_lotgivers_k26_exact_shares
set_option Elab.async false
set_option linter.all false
set_option maxRecDepth 100000
set_option maxHeartbeats 4000000
namespace MP
open PySem PySem.Spec PyProof.Rows L2

/-- deep data: tuples, lists that nobody changes any more, dicts and objects likewise; ref: an object of the store -/
inductive D where
  | non | bl (b : Bool) | int (i : Int) | str (s : Str)
  | tup (xs : List D) | lst (xs : List D) | dct (kvs : List (D × D)) | obj (C : Addr) (fs : List (Str × D)) | ref (i : Nat)

inductive O where
  | lst (xs : List D) | dct (kvs : List (D × D)) | ins (C : Addr) (fs : List (Str × D))

abbrev Sto := List O
abbrev Ev := List (Option D)

inductive R (α : Type) where
  | ok (a : α) (S : Sto)
  | exc (C : Addr) (fs : List (Str × D)) (S : Sto)
  | bad
def R.bind {α β : Type} (r : R α) (f : α → Sto → R β) : R β := match r with
  | .ok a S => f a S
  | .exc C fs S => .exc C fs S
  | .bad => .bad
theorem bind_ok {α β : Type} (a : α) (S : Sto) (f : α → Sto → R β) : (R.ok a S).bind f = f a S := rfl
theorem bind_exc {α β : Type} (C : Addr) (fs : List (Str × D)) (S : Sto) (f : α → Sto → R β) : (R.exc C fs S).bind f = .exc C fs S := rfl
theorem bind_bad {α β : Type} (f : α → Sto → R β) : (R.bad : R α).bind f = .bad := rfl

def keyD : Key → D
  | .inl i => .int i
  | .inr s => .str s

mutual
inductive VR (K : PySem.W.Frag) (m : List Addr) (H : Hp) : V → D → Prop where
  | non : VR K m H .non .non
  | bl (b : Bool) : VR K m H (.bl b) (.bl b)
  | int (i : Int) : VR K m H (.int i) (.int i)
  | str (s : Str) : VR K m H (.str s) (.str s)
  | tup {a : Addr} {vs : List V} {ds : List D} (h : H a = some (.tup vs)) (r : VRs K m H vs ds) : VR K m H (.ref a) (.tup ds)
  | lst {a : Addr} {vs : List V} {ds : List D} (n : a ∉ m) (h : Rd H a (.lst vs)) (r : VRs K m H vs ds) : VR K m H (.ref a) (.lst ds)
  | lstK {a : Addr} {vs : List V} {ds : List D} {o : Obj} {its : Array Value} {n : Nat} (hk : K.lookup a = some o) (h1 : o.cls = .type "list") (h2 : o.dict = none) (h3 : o.data = .seq its n) (h4 : its.size ≤ sizeLine) (h5 : Vals vs its.toList) (r : VRs K m H vs ds) : VR K m H (.ref a) (.lst ds)
  | dct {a : Addr} {vs : List (Key × V)} {ds : List (D × D)} (n : a ∉ m) (h : Rd H a (.dK vs)) (r : VDk K m H vs ds) : VR K m H (.ref a) (.dct ds)
  | dctT {a : Addr} {vs : List (List Key × V)} {ds : List (D × D)} (n : a ∉ m) (h : Rd H a (.dT vs)) (r : VDt K m H vs ds) : VR K m H (.ref a) (.dct ds)
  | obj {a C dx : Addr} {fs : List (Str × V)} {gs : List (Str × D)} (n : a ∉ m) (h : H a = some (.ins C dx fs)) (r : VFs K m H fs gs) : VR K m H (.ref a) (.obj C gs)
  | ref {i : Nat} {a : Addr} (h : m[i]? = some a) : VR K m H (.ref a) (.ref i)
inductive VRs (K : PySem.W.Frag) (m : List Addr) (H : Hp) : List V → List D → Prop where
  | nil : VRs K m H [] []
  | cons {v : V} {d : D} {vs : List V} {ds : List D} (h : VR K m H v d) (r : VRs K m H vs ds) : VRs K m H (v :: vs) (d :: ds)
inductive VFs (K : PySem.W.Frag) (m : List Addr) (H : Hp) : List (Str × V) → List (Str × D) → Prop where
  | nil : VFs K m H [] []
  | cons {f : Str} {v : V} {d : D} {vs : List (Str × V)} {ds : List (Str × D)} (h : VR K m H v d) (r : VFs K m H vs ds) : VFs K m H ((f, v) :: vs) ((f, d) :: ds)
inductive VDk (K : PySem.W.Frag) (m : List Addr) (H : Hp) : List (Key × V) → List (D × D) → Prop where
  | nil : VDk K m H [] []
  | cons {k : Key} {v : V} {d : D} {vs : List (Key × V)} {ds : List (D × D)} (h : VR K m H v d) (r : VDk K m H vs ds) : VDk K m H ((k, v) :: vs) ((keyD k, d) :: ds)
inductive VDt (K : PySem.W.Frag) (m : List Addr) (H : Hp) : List (List Key × V) → List (D × D) → Prop where
  | nil : VDt K m H [] []
  | cons {k : List Key} {v : V} {d : D} {vs : List (List Key × V)} {ds : List (D × D)} (h : VR K m H v d) (r : VDt K m H vs ds) : VDt K m H ((k, v) :: vs) ((.tup (k.map keyD), d) :: ds)
end

/-- from (m, H) on: the store's places stay and grow by new ones; what is not in the store stays -/
structure Ext (m : List Addr) (H : Hp) (m' : List Addr) (H' : Hp) : Prop where
  pre : ∃ l, m' = m ++ l
  new : ∀ a ∈ m', a ∈ m ∨ H a = none
  keep : ∀ a o, a ∉ m → H a = some o → H' a = some o

inductive OR (K : PySem.W.Frag) (m : List Addr) (H : Hp) (a : Addr) : O → Prop where
  | lst {vs : List V} {ds : List D} (h : H a = some (.lst vs)) (r : VRs K m H vs ds) : OR K m H a (.lst ds)
  | dct {vs : List (Key × V)} {ds : List (D × D)} (h : H a = some (.dK vs)) (r : VDk K m H vs ds) : OR K m H a (.dct ds)
  | dctT {vs : List (List Key × V)} {ds : List (D × D)} (h : H a = some (.dT vs)) (r : VDt K m H vs ds) : OR K m H a (.dct ds)
  | ins {C dx : Addr} {fs : List (Str × V)} {gs : List (Str × D)} (h : H a = some (.ins C dx fs)) (r : VFs K m H fs gs) : OR K m H a (.ins C gs)

structure SR (K : PySem.W.Frag) (m : List Addr) (H : Hp) (S : Sto) : Prop where
  nd : m.Nodup
  len : m.length = S.length
  at_ : ∀ (i : Nat) (a : Addr) (o : O), m[i]? = some a → S[i]? = some o → OR K m H a o

theorem OR.mut {K : PySem.W.Frag} {m : List Addr} {H : Hp} {a : Addr} {o : O} (h : OR K m H a o) : Mut (H a) := by
  cases h with
  | lst h _ => rw [h]; trivial
  | dct h _ => rw [h]; trivial
  | dctT h _ => rw [h]; trivial
  | ins h _ => rw [h]; trivial
theorem SR.mut {K : PySem.W.Frag} {m : List Addr} {H : Hp} {S : Sto} (x : SR K m H S) {a : Addr} (h : a ∈ m) : Mut (H a) := by
  obtain ⟨i, hi, e⟩ := List.mem_iff_getElem.mp h
  have hs : i < S.length := x.len ▸ hi
  exact (x.at_ i a S[i] (by rw [List.getElem?_eq_getElem hi, e]) (List.getElem?_eq_getElem hs)).mut
theorem not_mut_tup {H : Hp} {a : Addr} {xs : List V} (h : Rd H a (.tup xs)) : ¬ Mut (H a) := by
  rcases h with h | ⟨o, h⟩
  · rw [h]; exact fun z => z
  · rw [h]; exact fun z => z
theorem Ext.refl {m : List Addr} {H : Hp} : Ext m H m H := ⟨⟨[], by simp⟩, fun a h => .inl h, fun _ _ _ h => h⟩
theorem Ext.sub {m m' : List Addr} {H H' : Hp} (e : Ext m H m' H') {a : Addr} (h : a ∈ m) : a ∈ m' := by
  obtain ⟨l, e⟩ := e.pre
  rw [e]; exact List.mem_append_left _ h
theorem Ext.trans {m m1 m2 : List Addr} {H H1 H2 : Hp} (a : Ext m H m1 H1) (b : Ext m1 H1 m2 H2) : Ext m H m2 H2 := by
  have key : ∀ c o, c ∉ m → H c = some o → c ∉ m1 := fun c o n e z => by
    rcases a.new c z with y | y
    · exact n y
    · rw [y] at e; cases e
  refine ⟨?_, fun c hc => ?_, fun c o n e => b.keep c o (key c o n e) (a.keep c o n e)⟩
  · obtain ⟨l, e⟩ := a.pre
    obtain ⟨k, f⟩ := b.pre
    exact ⟨l ++ k, by rw [f, e, List.append_assoc]⟩
  · by_cases hm : c ∈ m
    · exact .inl hm
    · right
      cases q : H c with
      | none => rfl
      | some o =>
        rcases b.new c hc with y | y
        · exact absurd y (key c o hm q)
        · rw [a.keep c o hm q] at y; cases y
theorem Ext.rd {m m' : List Addr} {H H' : Hp} (e : Ext m H m' H') {a : Addr} {u : HO} (n : a ∉ m) (h : Rd H a u) : Rd H' a u := by
  rcases h with h | ⟨o, h⟩
  · exact .inl (e.keep a _ n h)
  · exact .inr ⟨o, e.keep a _ n h⟩
theorem Rd.has {H : Hp} {a : Addr} {u : HO} (h : Rd H a u) : ∃ o, H a = some o := by
  rcases h with h | ⟨o, h⟩
  · exact ⟨_, h⟩
  · exact ⟨_, h⟩
theorem Ext.nin {m m' : List Addr} {H H' : Hp} (e : Ext m H m' H') {a : Addr} (n : a ∉ m) (h : ∃ o, H a = some o) : a ∉ m' := fun z => by
  obtain ⟨o, h⟩ := h
  rcases e.new a z with y | y
  · exact n y
  · rw [y] at h; cases h
theorem Ext.get {m m' : List Addr} {H H' : Hp} (e : Ext m H m' H') {i : Nat} {a : Addr} (h : m[i]? = some a) : m'[i]? = some a := by
  obtain ⟨l, e⟩ := e.pre
  rw [e, List.getElem?_append_left (List.getElem?_eq_some_iff.mp h).1]
  exact h

section
variable {K : PySem.W.Frag} {m m' : List Addr} {H H' : Hp}
theorem tup_ext (e : Ext m H m' H') (mu : ∀ a ∈ m, Mut (H a)) {a : Addr} {vs : List V} (h : H a = some (.tup vs)) : H' a = some (.tup vs) :=
  e.keep _ _ (fun z => not_mut_tup (.inl h) (mu a z)) h
mutual
theorem VR.ext (e : Ext m H m' H') (mu : ∀ a ∈ m, Mut (H a)) {v : V} {d : D} : VR K m H v d → VR K m' H' v d
  | .non => .non
  | .bl b => .bl b
  | .int i => .int i
  | .str s => .str s
  | .tup h r => .tup (tup_ext e mu h) (VRs.ext e mu r)
  | .lst n h r => .lst (e.nin n (Rd.has h)) (e.rd n h) (VRs.ext e mu r)
  | .lstK hk h1 h2 h3 h4 h5 r => .lstK hk h1 h2 h3 h4 h5 (VRs.ext e mu r)
  | .dct n h r => .dct (e.nin n (Rd.has h)) (e.rd n h) (VDk.ext e mu r)
  | .dctT n h r => .dctT (e.nin n (Rd.has h)) (e.rd n h) (VDt.ext e mu r)
  | .obj n h r => .obj (e.nin n ⟨_, h⟩) (e.keep _ _ n h) (VFs.ext e mu r)
  | .ref h => .ref (e.get h)
theorem VRs.ext (e : Ext m H m' H') (mu : ∀ a ∈ m, Mut (H a)) {v : List V} {d : List D} : VRs K m H v d → VRs K m' H' v d
  | .nil => .nil
  | .cons h r => .cons (VR.ext e mu h) (VRs.ext e mu r)
theorem VFs.ext (e : Ext m H m' H') (mu : ∀ a ∈ m, Mut (H a)) {v : List (Str × V)} {d : List (Str × D)} : VFs K m H v d → VFs K m' H' v d
  | .nil => .nil
  | .cons h r => .cons (VR.ext e mu h) (VFs.ext e mu r)
theorem VDk.ext (e : Ext m H m' H') (mu : ∀ a ∈ m, Mut (H a)) {v : List (Key × V)} {d : List (D × D)} : VDk K m H v d → VDk K m' H' v d
  | .nil => .nil
  | .cons h r => .cons (VR.ext e mu h) (VDk.ext e mu r)
theorem VDt.ext (e : Ext m H m' H') (mu : ∀ a ∈ m, Mut (H a)) {v : List (List Key × V)} {d : List (D × D)} : VDt K m H v d → VDt K m' H' v d
  | .nil => .nil
  | .cons h r => .cons (VR.ext e mu h) (VDt.ext e mu r)
end
end

/-- the slots -/
structure ER (K : PySem.W.Frag) (m : List Addr) (H : Hp) (σ : L2.St) (ρ : Ev) : Prop where
  at_ : ∀ (i : Nat) (d : D), ρ[i]? = some (some d) → ∃ v, σ[i]? = some (some v) ∧ VR K m H v d
  len : ρ.length = σ.length
theorem ER.ext {K : PySem.W.Frag} {m m' : List Addr} {H H' : Hp} {σ : L2.St} {ρ : Ev} (r : ER K m H σ ρ) (e : Ext m H m' H') (mu : ∀ a ∈ m, Mut (H a)) : ER K m' H' σ ρ := ⟨fun i d h => by
  obtain ⟨v, h1, h2⟩ := r.at_ i d h
  exact ⟨v, h1, h2.ext e mu⟩, r.len⟩
theorem ER.set {K : PySem.W.Frag} {m : List Addr} {H : Hp} {σ : L2.St} {ρ : Ev} (r : ER K m H σ ρ) {i : Nat} {v : V} {d : D} (h : VR K m H v d) : ER K m H (σ.set i (some v)) (ρ.set i (some d)) := ⟨fun j d' e => by
  have hl := r.len
  by_cases hj : i = j
  · subst hj
    have hi : i < ρ.length := by
      have := (List.getElem?_eq_some_iff.mp e).1
      simpa using this
    rw [List.getElem?_set_self hi] at e
    cases e
    exact ⟨v, by rw [List.getElem?_set_self (by omega)], h⟩
  · rw [List.getElem?_set_ne hj] at e ⊢
    exact r.at_ j d' e, by simp [r.len]⟩

/-- what an expression is worth -/
abbrev LE := Ev → Sto → R D
/-- behind an expression -/
def VP (X : Cx) (pins : List (Addr × Obj)) (σ : L2.St) (m : List Addr) (H : Hp) (d : D) (S' : Sto) (u : Value) (s' : Shared) : Prop :=
  ∃ v H' m', Inv X pins σ H' s' ∧ RelV v u ∧ Ext m H m' H' ∧ SR X.K m' H' S' ∧ VR X.K m' H' v d
def VPr (X : Cx) (pins : List (Addr × Obj)) (σ : L2.St) (m : List Addr) (H : Hp) (r : R D) (u : Value) (s' : Shared) : Prop := ∃ d S', r = .ok d S' ∧ VP X pins σ m H d S' u s'
/-- an exception that leaves, by the store -/
def WL (K : PySem.W.Frag) (m : List Addr) (H : Hp) (C : Addr) (fs : List (Str × D)) (S' : Sto) : Value → Option Addr → Hp → Prop := fun cls d H' =>
  cls = .ref C ∧ ∃ (dd : Addr) (vs : List (Str × V)) (m' : List Addr), d = some dd ∧ H' dd = some (.xd vs) ∧ Ext m H m' H' ∧ SR K m' H' S' ∧ VFs K m' H' vs fs
def Hope (X : Cx) (σ : L2.St) (m : List Addr) (H : Hp) {α : Type} (r : R α) : Prop :=
  r ≠ .bad ∧ ∀ C fs S', r = .exc C fs S' → ∀ u s', XE X (fun cls d σ' H' => σ' = σ ∧ WL X.K m H C fs S' cls d H') u s' → X.xe u s'
theorem WL.ext {K : PySem.W.Frag} {m m1 : List Addr} {H H1 : Hp} {C : Addr} {fs : List (Str × D)} {S' : Sto} {cls : Value} {d : Option Addr} {H' : Hp} (e : Ext m H m1 H1) (w : WL K m1 H1 C fs S' cls d H') : WL K m H C fs S' cls d H' := by
  obtain ⟨h1, dd, vs, m', h2, h3, h4, h5⟩ := w
  exact ⟨h1, dd, vs, m', h2, h3, e.trans h4, h5⟩
theorem XE.imp {X : Cx} {W W' : WX} {u : Value} {s' : Shared} (x : XE X W u s') (h : ∀ c d σ H, W c d σ H → W' c d σ H) : XE X W' u s' := by
  obtain ⟨a, B, sI, pins, σ, H, cls, d, e, I, nb, up, sky, na, os, ag, w⟩ := x
  exact ⟨a, B, sI, pins, σ, H, cls, d, e, I, nb, up, sky, na, os, ag, h _ _ _ _ w⟩
theorem Hope.ext {X : Cx} {σ : L2.St} {m m1 : List Addr} {H H1 : Hp} {α : Type} {r : R α} (h : Hope X σ m H r) (e : Ext m H m1 H1) : Hope X σ m1 H1 r :=
  ⟨h.1, fun C fs S' q u s' x => h.2 C fs S' q u s' (XE.imp x fun _ _ _ _ z => ⟨z.1, z.2.ext e⟩)⟩
theorem Hope.ok {X : Cx} {σ : L2.St} {m : List Addr} {H : Hp} {α : Type} {a : α} {S : Sto} : Hope X σ m H (R.ok a S) := ⟨fun z => (nomatch z), fun _ _ _ q => (nomatch q)⟩
theorem Hope.exc {X : Cx} {σ : L2.St} {m : List Addr} {H : Hp} {α β : Type} {C : Addr} {fs : List (Str × D)} {S : Sto} (h : Hope X σ m H (R.exc C fs S : R α)) : Hope X σ m H (R.exc C fs S : R β) :=
  ⟨fun z => (nomatch z), fun C' fs' S' q => by cases q; exact h.2 _ _ _ rfl⟩

structure PEL (X : Cx) (e : Expr) (l : LE) : Prop where
  run : ∀ (pins : List (Addr × Obj)) (s : Shared) (σ : L2.St) (H : Hp) (m : List Addr) (ρ : Ev) (S : Sto), Inv X pins σ H s → SR X.K m H S → ER X.K m H σ ρ → Hope X σ m H (l ρ S) →
    wpAny (model X.prog X.w) X.A (eval e X.env) (VPr X pins σ m H (l ρ S)) X.xe s
/-- a test -/
abbrev LT := Ev → Sto → R Bool
def TPr (X : Cx) (pins : List (Addr × Obj)) (σ : L2.St) (m : List Addr) (H : Hp) (r : R Bool) (b : Bool) (s' : Shared) : Prop :=
  ∃ S' H' m', r = .ok b S' ∧ Inv X pins σ H' s' ∧ Ext m H m' H' ∧ SR X.K m' H' S'
structure PTL (X : Cx) (e : Expr) (l : LT) : Prop where
  run : ∀ (pins : List (Addr × Obj)) (s : Shared) (σ : L2.St) (H : Hp) (m : List Addr) (ρ : Ev) (S : Sto), Inv X pins σ H s → SR X.K m H S → ER X.K m H σ ρ → Hope X σ m H (l ρ S) →
    wpAny (model X.prog X.w) X.A (isTrue e X.env (eval e X.env)) (TPr X pins σ m H (l ρ S)) X.xe s
/-- arguments -/
abbrev LA := Ev → Sto → R (List D)
def APr (X : Cx) (pins : List (Addr × Obj)) (σ : L2.St) (m : List Addr) (H : Hp) (r : R (List D)) (us : List Value) (s' : Shared) : Prop :=
  ∃ ds S' vs H' m', r = .ok ds S' ∧ Inv X pins σ H' s' ∧ Vals vs us ∧ Ext m H m' H' ∧ SR X.K m' H' S' ∧ VRs X.K m' H' vs ds
structure PAL (X : Cx) (es : List Expr) (l : LA) : Prop where
  run : ∀ (pos : Pos) (pins : List (Addr × Obj)) (s : Shared) (σ : L2.St) (H : Hp) (m : List Addr) (ρ : Ev) (S : Sto), Inv X pins σ H s → SR X.K m H S → ER X.K m H σ ρ → Hope X σ m H (l ρ S) →
    wpAny (model X.prog X.w) X.A (spliced (backTo pos (starEach es X.env))) (APr X pins σ m H (l ρ S)) X.xe s
end MP

namespace MP
open PySem PySem.Spec PyProof.Rows L2

section
variable {K : PySem.W.Frag} {m : List Addr} {H : Hp} {S : Sto} {p : Addr} {o : HO}
theorem SR.muts (x : SR K m H S) : ∀ a ∈ m, Mut (H a) := fun _ h => x.mut h
theorem SR.nin (x : SR K m H S) (h : H p = none) : p ∉ m := fun z => by
  have := x.mut z
  rw [h] at this; exact this
theorem Ext.fresh (h : H p = none) : Ext m H m (upd H p o) := ⟨⟨[], by simp⟩, fun a h => .inl h, fun a u _ e => by rw [upd_ne (ne_of_none e h)]; exact e⟩
theorem OR.ext {m' : List Addr} {H' : Hp} {a : Addr} {ob : O} (r : OR K m H a ob) (e : Ext m H m' H') (mu : ∀ a ∈ m, Mut (H a)) (h : H' a = H a) : OR K m' H' a ob := by
  cases r with
  | lst q r => exact .lst (h.trans q) (r.ext e mu)
  | dct q r => exact .dct (h.trans q) (r.ext e mu)
  | dctT q r => exact .dctT (h.trans q) (r.ext e mu)
  | ins q r => exact .ins (h.trans q) (r.ext e mu)
theorem SR.fresh (x : SR K m H S) (h : H p = none) : SR K m (upd H p o) S := ⟨x.nd, x.len, fun i a ob h1 h2 => (x.at_ i a ob h1 h2).ext (Ext.fresh h) x.muts (upd_ne fun z => x.nin h (z ▸ List.mem_iff_getElem?.mpr ⟨i, h1⟩))⟩

/-- what is wanted of a value and the heap behind, by the store -/
def QV (K : PySem.W.Frag) (m : List Addr) (H : Hp) (S' : Sto) (d : D) : VK := fun v H' => ∃ m', Ext m H m' H' ∧ SR K m' H' S' ∧ VR K m' H' v d
theorem qv_same (x : SR K m H S) {v : V} {d : D} (r : VR K m H v d) : QV K m H S d v H := ⟨m, Ext.refl, x, r⟩
theorem qv_new (x : SR K m H S) (h : H p = none) {v : V} {d : D} (r : VR K m (upd H p o) v d) : QV K m H S d v (upd H p o) := ⟨m, Ext.fresh h, x.fresh h, r⟩
theorem VRs.fresh (x : SR K m H S) (h : H p = none) {vs : List V} {ds : List D} (r : VRs K m H vs ds) : VRs K m (upd H p o) vs ds := r.ext (Ext.fresh h) x.muts
theorem VR.fresh (x : SR K m H S) (h : H p = none) {v : V} {d : D} (r : VR K m H v d) : VR K m (upd H p o) v d := r.ext (Ext.fresh h) x.muts
theorem vr_newTup (x : SR K m H S) (h : H p = none) {vs : List V} {ds : List D} (r : VRs K m H vs ds) : VR K m (upd H p (.tup vs)) (.ref p) (.tup ds) := .tup upd_same (r.fresh x h)
theorem vr_newLst (x : SR K m H S) (h : H p = none) {vs : List V} {ds : List D} (r : VRs K m H vs ds) : VR K m (upd H p (.lst vs)) (.ref p) (.lst ds) := .lst (x.nin h) (.inl upd_same) (r.fresh x h)
/-- a new object put into the store -/
theorem SR.snoc (x : SR K m H S) (h : H p = none) {ob : O} (r : ∀ m' H', Ext m H m' H' → H' p = some o → OR K m' H' p ob) : Ext m H (m ++ [p]) (upd H p o) ∧ SR K (m ++ [p]) (upd H p o) (S ++ [ob]) := by
  have e : Ext m H (m ++ [p]) (upd H p o) := ⟨⟨[p], rfl⟩, fun a ha => (List.mem_append.mp ha).imp id fun z => by
    rw [List.mem_singleton.mp z]; exact h, fun a u _ q => by rw [upd_ne (ne_of_none q h)]; exact q⟩
  refine ⟨e, List.nodup_append.mpr ⟨x.nd, by simp, fun a ha b hb z => ?_⟩, by simp [x.len], fun i a u h1 h2 => ?_⟩
  · rw [List.mem_singleton.mp hb] at z
    exact x.nin h (z ▸ ha)
  · by_cases hi : i < m.length
    · rw [List.getElem?_append_left hi] at h1
      rw [List.getElem?_append_left (x.len ▸ hi)] at h2
      exact (x.at_ i a u h1 h2).ext e x.muts (upd_ne fun z => x.nin h (z ▸ List.mem_iff_getElem?.mpr ⟨i, h1⟩))
    · have hl : i = m.length := by
        have := (List.getElem?_eq_some_iff.mp h1).1
        simp at this; omega
      subst hl
      rw [List.getElem?_append_right (Nat.le_refl _)] at h1
      rw [x.len, List.getElem?_append_right (Nat.le_refl _)] at h2
      simp at h1 h2
      subst h1 h2
      exact r _ _ e upd_same
theorem qv_newL (x : SR K m H S) (h : H p = none) {vs : List V} {ds : List D} (r : VRs K m H vs ds) : QV K m H (S ++ [.lst ds]) (.ref S.length) (.ref p) (upd H p (.lst vs)) := by
  obtain ⟨e, q⟩ := x.snoc (o := .lst vs) (ob := .lst ds) h fun m' H' e q => .lst q (r.ext e x.muts)
  exact ⟨_, e, q, .ref (by rw [← x.len]; simp)⟩
theorem VRs.length {vs : List V} {ds : List D} : VRs K m H vs ds → vs.length = ds.length
  | .nil => rfl
  | .cons _ r => by rw [List.length_cons, List.length_cons, r.length]
theorem VRs.append {vs ws : List V} {ds es : List D} : VRs K m H vs ds → VRs K m H ws es → VRs K m H (vs ++ ws) (ds ++ es)
  | .nil, s => s
  | .cons h r, s => .cons h (r.append s)
theorem VRs.take {vs : List V} {ds : List D} : ∀ (n : Nat), VRs K m H vs ds → VRs K m H (vs.take n) (ds.take n)
  | 0, _ => .nil
  | _ + 1, .nil => .nil
  | n + 1, .cons h r => .cons h (VRs.take n r)
theorem VRs.drop {vs : List V} {ds : List D} : ∀ (n : Nat), VRs K m H vs ds → VRs K m H (vs.drop n) (ds.drop n)
  | 0, r => r
  | _ + 1, .nil => .nil
  | n + 1, .cons h r => VRs.drop n r
theorem VRs.getr {vs : List V} {ds : List D} : ∀ {i : Nat} {d : D}, VRs K m H vs ds → ds[i]? = some d → ∃ v, vs[i]? = some v ∧ VR K m H v d
  | _, _, .nil, e => by simp at e
  | 0, _, .cons h _, e => by simp at e; subst e; exact ⟨_, rfl, h⟩
  | i + 1, d, .cons _ r, e => by
    obtain ⟨v, h1, h2⟩ := VRs.getr (i := i) (d := d) r (by simpa using e)
    exact ⟨v, by simpa using h1, h2⟩
theorem VRs.getl {vs : List V} {ds : List D} : ∀ {i : Nat} {v : V}, VRs K m H vs ds → vs[i]? = some v → ∃ d, ds[i]? = some d ∧ VR K m H v d
  | _, _, .nil, e => by simp at e
  | 0, _, .cons h _, e => by simp at e; subst e; exact ⟨_, rfl, h⟩
  | i + 1, d, .cons _ r, e => by
    obtain ⟨v, h1, h2⟩ := VRs.getl (i := i) (v := d) r (by simpa using e)
    exact ⟨v, by simpa using h1, h2⟩
theorem VRs.set {v : V} {d : D} (h : VR K m H v d) {vs : List V} {ds : List D} : ∀ (i : Nat), VRs K m H vs ds → VRs K m H (vs.set i v) (ds.set i d)
  | _, .nil => .nil
  | 0, .cons _ r => .cons h r
  | i + 1, .cons q r => .cons q (VRs.set h i r)
theorem VRs.eraseIdx {vs : List V} {ds : List D} : ∀ (i : Nat), VRs K m H vs ds → VRs K m H (vs.eraseIdx i) (ds.eraseIdx i)
  | _, .nil => .nil
  | 0, .cons _ r => r
  | i + 1, .cons q r => .cons q (VRs.eraseIdx i r)
theorem VRs.of_ints {ns : List Int} : VRs K m H (ns.map V.int) (ns.map D.int) := by
  induction ns with
  | nil => exact .nil
  | cons n ns ih => exact .cons (.int n) ih
theorem VRs.of_strs {ns : List Str} : VRs K m H (ns.map V.str) (ns.map D.str) := by
  induction ns with
  | nil => exact .nil
  | cons n ns ih => exact .cons (.str n) ih
end

/-- an object of the store as it stands -/
def vw (S : Sto) : D → D
  | .ref i => match S[i]? with
    | some (.lst xs) => .lst xs
    | some (.dct kvs) => .dct kvs
    | some (.ins C fs) => .obj C fs
    | none => .ref i
  | d => d
section
variable {K : PySem.W.Frag} {m : List Addr} {H : Hp} {S : Sto}
theorem vw_lst (x : SR K m H S) {v : V} {d : D} {xs : List D} (r : VR K m H v d) (e : vw S d = .lst xs) : ∃ a vs, v = .ref a ∧ SqL K H a vs ∧ VRs K m H vs xs := by
  cases r with
  | @lst a vs ds n h r => cases e; exact ⟨a, vs, rfl, .inl h, r⟩
  | @lstK a vs ds ob its n hk h1 h2 h3 h4 h5 r => cases e; exact ⟨a, vs, rfl, .inr ⟨ob, its, n, hk, h1, h2, h3, h4, h5⟩, r⟩
  | @ref i a h =>
    dsimp only [vw] at e
    cases q : S[i]? with
    | none => rw [q] at e; cases e
    | some ob =>
      have z := x.at_ i a ob h q
      rw [q] at e
      cases z with
      | lst h r => cases e; exact ⟨a, _, rfl, SqL.of h, r⟩
      | dct _ _ => cases e
      | dctT _ _ => cases e
      | ins _ _ => cases e
  | _ => cases e
theorem vw_tup {v : V} {d : D} {xs : List D} (r : VR K m H v d) (e : vw S d = .tup xs) : ∃ a vs, v = .ref a ∧ H a = some (.tup vs) ∧ VRs K m H vs xs := by
  cases r with
  | @tup a vs ds h r => cases e; exact ⟨a, vs, rfl, h, r⟩
  | @ref i a h =>
    dsimp only [vw] at e
    cases q : S[i]? with
    | none => rw [q] at e; cases e
    | some ob => rw [q] at e; cases ob <;> cases e
  | _ => cases e
theorem vw_int {v : V} {d : D} {i : Int} (r : VR K m H v d) (e : vw S d = .int i) : v = .int i := by
  cases r with
  | int j => cases e; rfl
  | @ref i a h =>
    dsimp only [vw] at e
    cases q : S[i]? with
    | none => rw [q] at e; cases e
    | some ob => rw [q] at e; cases ob <;> cases e
  | _ => cases e
theorem vw_str {v : V} {d : D} {i : Str} (r : VR K m H v d) (e : vw S d = .str i) : v = .str i := by
  cases r with
  | str j => cases e; rfl
  | @ref i a h =>
    dsimp only [vw] at e
    cases q : S[i]? with
    | none => rw [q] at e; cases e
    | some ob => rw [q] at e; cases ob <;> cases e
  | _ => cases e
theorem vw_bl {v : V} {d : D} {i : Bool} (r : VR K m H v d) (e : vw S d = .bl i) : v = .bl i := by
  cases r with
  | bl j => cases e; rfl
  | @ref i a h =>
    dsimp only [vw] at e
    cases q : S[i]? with
    | none => rw [q] at e; cases e
    | some ob => rw [q] at e; cases ob <;> cases e
  | _ => cases e
theorem vw_obj (x : SR K m H S) {v : V} {d : D} {C : Addr} {gs : List (Str × D)} (r : VR K m H v d) (e : vw S d = .obj C gs) : ∃ a dx fs, v = .ref a ∧ H a = some (.ins C dx fs) ∧ VFs K m H fs gs := by
  cases r with
  | @obj a C dx fs gs n h r => cases e; exact ⟨a, dx, fs, rfl, h, r⟩
  | @ref i a h =>
    dsimp only [vw] at e
    cases q : S[i]? with
    | none => rw [q] at e; cases e
    | some ob =>
      have z := x.at_ i a ob h q
      rw [q] at e
      cases z with
      | ins h r => cases e; exact ⟨a, _, _, rfl, h, r⟩
      | dct _ _ => cases e
      | dctT _ _ => cases e
      | lst _ _ => cases e
  | _ => cases e
end

/-! ### rules by values -/
abbrev G2 := Sto → D → D → Option D
/-- an operation on two values; the store stays -/
structure OpL (X : Cx) (f : Value → Value → Sem Value) (g : G2) : Prop where
  run : ∀ (pins : List (Addr × Obj)) (s : Shared) (σ : L2.St) (H : Hp) (m : List Addr) (S : Sto) (x y : V) (dx dy d : D) (v u : Value), Inv X pins σ H s → SR X.K m H S → VR X.K m H x dx → VR X.K m H y dy → RelV x v → RelV y u → g S dx dy = some d →
    wpAny (model X.prog X.w) X.A (f v u) (VP X pins σ m H d S) X.xe s
theorem vp_of {X : Cx} {pins : List (Addr × Obj)} {σ : L2.St} {m : List Addr} {H : Hp} {S : Sto} {d : D} {u : Value} {s' : Shared} (h : EP X pins σ (QV X.K m H S d) u s') : VP X pins σ m H d S u s' := by
  obtain ⟨v, H', I, r, m', e, q, w⟩ := h
  exact ⟨v, H', m', I, r, e, q, w⟩
theorem OpL.of {X : Cx} {f : Value → Value → Sem Value} {r : R2} {g : G2} (h : OpR X f r)
    (hg : ∀ (H : Hp) (m : List Addr) (S : Sto) (x y : V) (dx dy d : D), SR X.K m H S → VR X.K m H x dx → VR X.K m H y dy → g S dx dy = some d → r x y H (QV X.K m H S d)) : OpL X f g :=
  ⟨fun pins s σ H m S x y dx dy d v u I q rx ry ex ey e => thn (h pins s σ H x y v u _ I ex ey (hg H m S x y dx dy d q rx ry e)) fun _ _ z => vp_of z⟩
theorem OpL.or {X : Cx} {f : Value → Value → Sem Value} {g g' : G2} (h : OpL X f g) (h' : OpL X f g') : OpL X f (fun S x y => (g S x y).or (g' S x y)) :=
  ⟨fun pins s σ H m S x y dx dy d v u I q rx ry ex ey e => by
    cases z : g S dx dy with
    | some d' =>
      rw [z] at e
      cases e
      exact h.run pins s σ H m S x y dx dy _ v u I q rx ry ex ey z
    | none =>
      rw [z] at e
      exact h'.run pins s σ H m S x y dx dy _ v u I q rx ry ex ey e⟩

def g2I (f : Int → Int → Option D) : G2 := fun S x y => match vw S x, vw S y with
  | .int i, .int j => f i j
  | _, _ => none
def g2S (f : Str → Str → Option D) : G2 := fun S x y => match vw S x, vw S y with
  | .str i, .str j => f i j
  | _, _ => none
def g2T (f : List D → List D → Option D) : G2 := fun S x y => match vw S x, vw S y with
  | .tup i, .tup j => f i j
  | _, _ => none
def g2L (f : List D → List D → Option D) : G2 := fun S x y => match vw S x, vw S y with
  | .lst i, .lst j => f i j
  | _, _ => none
theorem g2I_inv {f : Int → Int → Option D} {S : Sto} {x y d : D} (h : g2I f S x y = some d) : ∃ i j, vw S x = .int i ∧ vw S y = .int j ∧ f i j = some d := by
  unfold g2I at h
  split at h
  · exact ⟨_, _, ‹_›, ‹_›, h⟩
  · cases h
theorem g2S_inv {f : Str → Str → Option D} {S : Sto} {x y d : D} (h : g2S f S x y = some d) : ∃ i j, vw S x = .str i ∧ vw S y = .str j ∧ f i j = some d := by
  unfold g2S at h
  split at h
  · exact ⟨_, _, ‹_›, ‹_›, h⟩
  · cases h
theorem g2T_inv {f : List D → List D → Option D} {S : Sto} {x y d : D} (h : g2T f S x y = some d) : ∃ i j, vw S x = .tup i ∧ vw S y = .tup j ∧ f i j = some d := by
  unfold g2T at h
  split at h
  · exact ⟨_, _, ‹_›, ‹_›, h⟩
  · cases h
theorem g2L_inv {f : List D → List D → Option D} {S : Sto} {x y d : D} (h : g2L f S x y = some d) : ∃ i j, vw S x = .lst i ∧ vw S y = .lst j ∧ f i j = some d := by
  unfold g2L at h
  split at h
  · exact ⟨_, _, ‹_›, ‹_›, h⟩
  · cases h
section
variable {X : Cx}
/-- ints, under a condition -/
theorem opl_int {f : Value → Value → Sem Value} {C : Int → Int → Prop} {g : Int → Int → V} {g' : Int → Int → Option D} (h : OpR X f (rI C g)) (hg : ∀ i j d, g' i j = some d → C i j ∧ ∀ K m H, VR K m H (g i j) d) : OpL X f (g2I g') :=
  .of h fun H m S x y dx dy d q rx ry e => by
    obtain ⟨i, j, e1, e2, e3⟩ := g2I_inv e
    obtain ⟨c, z⟩ := hg i j d e3
    exact ⟨i, j, vw_int rx e1, vw_int ry e2, c, qv_same q (z _ _ _)⟩
theorem opl_int0 {f : Value → Value → Sem Value} {g : Int → Int → V} {g' : Int → Int → D} (h : OpR X f (rI0 g)) (hg : ∀ i j K m H, VR K m H (g i j) (g' i j)) : OpL X f (g2I fun i j => some (g' i j)) :=
  .of h fun H m S x y dx dy d q rx ry e => by
    obtain ⟨i, j, e1, e2, e3⟩ := g2I_inv e
    cases e3
    exact ⟨i, j, vw_int rx e1, vw_int ry e2, qv_same q (hg _ _ _ _ _)⟩

def gCat : G2 := g2T fun a b => if a.length + b.length ≤ sizeLine then some (.tup (a ++ b)) else none
def gCatL : G2 := g2L fun a b => if a.length + b.length ≤ sizeLine then some (.lst (a ++ b)) else none
def gAddI : G2 := g2I fun i j => some (.int (i + j))
def gAddS : G2 := g2S fun a b => if a.length + b.length ≤ sizeLine then some (.str (a ++ b)) else none
theorem opl_addI : OpL X (binaryOp .Add) gAddI := opl_int0 op_add fun i j _ _ _ => .int _
theorem opl_addS : OpL X (binaryOp .Add) gAddS := .of op_add_str fun H m S x y dx dy d q rx ry e => by
  obtain ⟨i, j, e1, e2, e3⟩ := g2S_inv e
  split at e3
  · cases e3
    exact ⟨i, j, vw_str rx e1, vw_str ry e2, ‹_›, qv_same q (.str _)⟩
  · cases e3
theorem VRs.nil_iff {K : PySem.W.Frag} {m : List Addr} {H : Hp} {vs : List V} {ds : List D} (r : VRs K m H vs ds) : vs = [] ↔ ds = [] := by
  cases r <;> simp
theorem opl_catT : OpL X (binaryOp .Add) gCat := .of op_catA fun H m S x y dx dy d q rx ry e => by
  obtain ⟨i, j, e1, e2, e3⟩ := g2T_inv e
  split at e3
  · cases e3
    obtain ⟨a, xs, rfl, ha, r1⟩ := vw_tup rx e1
    obtain ⟨b, ys, rfl, hb, r2⟩ := vw_tup ry e2
    refine ⟨a, b, xs, ys, rfl, rfl, SqT.of ha, SqT.of hb, by rw [r1.length, r2.length]; assumption, ?_⟩
    refine ⟨fun z => ?_, fun z z' => ?_, fun z z' p hp => ?_⟩
    · have z1 := r1.nil_iff.mp z
      subst z1
      exact qv_same q (.tup hb (by simpa using r2))
    · have z1 := r2.nil_iff.mp z'
      subst z1
      exact qv_same q (.tup ha (by simpa using r1))
    · exact qv_new q hp (vr_newTup q hp (r1.append r2))
  · cases e3
end
end MP

namespace MP
open PySem PySem.Spec PyProof.Rows L2

section
variable {X : Cx} {pins : List (Addr × Obj)} {σ : L2.St} {m m1 : List Addr} {H H1 : Hp} {ρ : Ev} {S S1 : Sto} {s : Shared}
theorem VPr.left {r : R D} {u : Value} {s' : Shared} (e : Ext m H m1 H1) (h : VPr X pins σ m1 H1 r u s') : VPr X pins σ m H r u s' := by
  obtain ⟨d, S', q, v, H', m', I, rv, e', x, w⟩ := h
  exact ⟨d, S', q, v, H', m', I, rv, e.trans e', x, w⟩
theorem TPr.left {r : R Bool} {u : Bool} {s' : Shared} (e : Ext m H m1 H1) (h : TPr X pins σ m1 H1 r u s') : TPr X pins σ m H r u s' := by
  obtain ⟨S', H', m', q, I, e', x⟩ := h
  exact ⟨S', H', m', q, I, e.trans e', x⟩
theorem APr.left {r : R (List D)} {u : List Value} {s' : Shared} (e : Ext m H m1 H1) (h : APr X pins σ m1 H1 r u s') : APr X pins σ m H r u s' := by
  obtain ⟨ds, S', vs, H', m', q, I, rv, e', x, w⟩ := h
  exact ⟨ds, S', vs, H', m', q, I, rv, e.trans e', x, w⟩
theorem vpr_of {d : D} {S' : Sto} {u : Value} {s' : Shared} (h : VP X pins σ m H d S' u s') : VPr X pins σ m H (.ok d S') u s' := ⟨d, S', rfl, h⟩

/-- an expression, then what goes on -/
theorem run_seq {α : Type} {e : Expr} {l : LE} (h : PEL X e l) (I : Inv X pins σ H s) (x : SR X.K m H S) (r : ER X.K m H σ ρ) {f : D → Sto → R α} (hp : Hope X σ m H ((l ρ S).bind f)) {Q : Value → Shared → Prop}
    (k : ∀ d S1, l ρ S = .ok d S1 → ∀ v u s1 H1 m1, Inv X pins σ H1 s1 → RelV v u → Ext m H m1 H1 → SR X.K m1 H1 S1 → VR X.K m1 H1 v d → ER X.K m1 H1 σ ρ → Hope X σ m1 H1 (f d S1) → Q u s1) :
    wpAny (model X.prog X.w) X.A (eval e X.env) Q X.xe s := by
  cases q : l ρ S with
  | bad => rw [q] at hp; exact absurd rfl hp.1
  | exc C fs S' =>
    rw [q] at hp
    have z := h.run pins s σ H m ρ S I x r (by rw [q]; exact hp.exc)
    rw [q] at z
    exact thn z fun u s' ⟨d, S2, e, _⟩ => nomatch e
  | ok d S1 =>
    rw [q] at hp
    have z := h.run pins s σ H m ρ S I x r (by rw [q]; exact Hope.ok)
    rw [q] at z
    refine thn z fun u s1 ⟨d', S2, e, v, H1, m1, I1, rv, ex, x1, w⟩ => ?_
    cases e
    exact k d S1 q v u s1 H1 m1 I1 rv ex x1 w (r.ext ex x.muts) (Hope.ext hp ex)
theorem run_seqT {α : Type} {e : Expr} {l : LT} (h : PTL X e l) (I : Inv X pins σ H s) (x : SR X.K m H S) (r : ER X.K m H σ ρ) {f : Bool → Sto → R α} (hp : Hope X σ m H ((l ρ S).bind f)) {Q : Bool → Shared → Prop}
    (k : ∀ b S1, l ρ S = .ok b S1 → ∀ s1 H1 m1, Inv X pins σ H1 s1 → Ext m H m1 H1 → SR X.K m1 H1 S1 → ER X.K m1 H1 σ ρ → Hope X σ m1 H1 (f b S1) → Q b s1) :
    wpAny (model X.prog X.w) X.A (isTrue e X.env (eval e X.env)) Q X.xe s := by
  cases q : l ρ S with
  | bad => rw [q] at hp; exact absurd rfl hp.1
  | exc C fs S' =>
    rw [q] at hp
    have z := h.run pins s σ H m ρ S I x r (by rw [q]; exact hp.exc)
    rw [q] at z
    exact thn z fun u s' ⟨S2, H', m', e, _⟩ => nomatch e
  | ok d S1 =>
    rw [q] at hp
    have z := h.run pins s σ H m ρ S I x r (by rw [q]; exact Hope.ok)
    rw [q] at z
    refine thn z fun u s1 ⟨S2, H1, m1, e, I1, ex, x1⟩ => ?_
    cases e
    exact k d S1 q s1 H1 m1 I1 ex x1 (r.ext ex x.muts) (Hope.ext hp ex)
theorem run_seqA {α : Type} {es : List Expr} {l : LA} {pos : Pos} (h : PAL X es l) (I : Inv X pins σ H s) (x : SR X.K m H S) (r : ER X.K m H σ ρ) {f : List D → Sto → R α} (hp : Hope X σ m H ((l ρ S).bind f)) {Q : List Value → Shared → Prop}
    (k : ∀ ds S1, l ρ S = .ok ds S1 → ∀ vs us s1 H1 m1, Inv X pins σ H1 s1 → Vals vs us → Ext m H m1 H1 → SR X.K m1 H1 S1 → VRs X.K m1 H1 vs ds → ER X.K m1 H1 σ ρ → Hope X σ m1 H1 (f ds S1) → Q us s1) :
    wpAny (model X.prog X.w) X.A (spliced (backTo pos (starEach es X.env))) Q X.xe s := by
  cases q : l ρ S with
  | bad => rw [q] at hp; exact absurd rfl hp.1
  | exc C fs S' =>
    rw [q] at hp
    have z := h.run pos pins s σ H m ρ S I x r (by rw [q]; exact hp.exc)
    rw [q] at z
    exact thn z fun u s' ⟨ds, S2, vs, H', m', e, _⟩ => nomatch e
  | ok d S1 =>
    rw [q] at hp
    have z := h.run pos pins s σ H m ρ S I x r (by rw [q]; exact Hope.ok)
    rw [q] at z
    refine thn z fun u s1 ⟨ds, S2, vs, H1, m1, e, I1, rv, ex, x1, w⟩ => ?_
    cases e
    exact k d S1 q vs u s1 H1 m1 I1 rv ex x1 w (r.ext ex x.muts) (Hope.ext hp ex)
end

section
variable {X : Cx} {a b c e : Expr} {la lb lc l : LE} {pos : Pos}
def lVar (i : Nat) : LE := fun ρ S => match ρ[i]? with
  | some (some d) => .ok d S
  | _ => .bad
theorem pel_var {i : Nat} {x : Str} (hN : X.N[i]? = some x := by rfl) (hv : Vis X.env.scope x := by first | exact Or.inl rfl | exact Or.inr (Or.inl rfl) | exact Or.inr (Or.inr rfl)) (hd : (x == ("__debug__" : Str)) = false := by decide) (hcd : (x == ("__classdict__" : Str)) = false := by decide) :
    PEL X (.Name x pos) (lVar i) := by
  refine ⟨fun pins s σ H m ρ S I x r hp => ?_⟩
  unfold lVar at hp ⊢
  split at hp
  · rename_i d e
    obtain ⟨v, h1, h2⟩ := r.at_ i d e
    exact thn ((pe_var hN hv hd hcd).run pins s σ H (QV X.K m H S d) I ⟨v, h1, qv_same x h2⟩) fun u s' q => vpr_of (vp_of q)
  · exact absurd rfl hp.1
/-- an expression of the layer whose value is known -/
def lC (d : D) : LE := fun _ S => .ok d S
theorem pel_c {v : V} {d : D} (h : PE X e (tC v)) (hv : ∀ K m H, VR K m H v d) : PEL X e (lC d) :=
  ⟨fun pins s σ H m ρ S I x r hp => thn (h.run pins s σ H (QV X.K m H S d) I (qv_same x (hv _ _ _))) fun u s' q => vpr_of (vp_of q)⟩
theorem pel_int {i : Int} {j : Nat} : PEL X (.Constant (.int i) j pos) (lC (.int i)) := pel_c pe_int fun _ _ _ => .int i
theorem pel_bl {i : Bool} {j : Nat} : PEL X (.Constant (.bool i) j pos) (lC (.bl i)) := pel_c pe_bl fun _ _ _ => .bl i
theorem pel_non {j : Nat} : PEL X (.Constant .none j pos) (lC .non) := pel_c pe_non fun _ _ _ => .non
theorem pel_str {i : Str} {j : Nat} : PEL X (.Constant (.str i) j pos) (lC (.str i)) := pel_c pe_str fun _ _ _ => .str i
/-- a module's constant -/
theorem pel_gint {x : Str} {i : Int} {t : Tok} (hg : Gl X x) (hm : X.mg x = some (.int i t)) (hd : (x == ("__debug__" : Str)) = false := by decide) : PEL X (.Name x pos) (lC (.int i)) := pel_c (pe_glob hg hm (v := .int i) ⟨_, rfl⟩ hd) fun _ _ _ => .int i
theorem pel_gstr {x i : Str} {t : Tok} (hg : Gl X x) (hm : X.mg x = some (.str i t)) (hd : (x == ("__debug__" : Str)) = false := by decide) : PEL X (.Name x pos) (lC (.str i)) := pel_c (pe_glob hg hm (v := .str i) ⟨_, rfl⟩ hd) fun _ _ _ => .str i

def lift1 (o : Option D) (S : Sto) : R D := match o with
  | some d => .ok d S
  | none => .bad
def lBin (g : G2) (la lb : LE) : LE := fun ρ S => (la ρ S).bind fun x S1 => (lb ρ S1).bind fun y S2 => lift1 (g S2 x y) S2
theorem lift_ok {o : Option D} {S : Sto} {X : Cx} {σ : L2.St} {m : List Addr} {H : Hp} (h : Hope X σ m H (lift1 o S)) : ∃ d, o = some d := by
  cases o with
  | none => exact absurd rfl h.1
  | some d => exact ⟨d, rfl⟩
theorem run_bin {g : G2} {f : Value → Value → Sem Value} (ha : PEL X a la) (hb : PEL X b lb) (ho : OpL X f g) {pins : List (Addr × Obj)} {s : Shared} {σ : L2.St} {H : Hp} {m : List Addr} {ρ : Ev} {S : Sto} (I : Inv X pins σ H s) (x : SR X.K m H S) (r : ER X.K m H σ ρ) (hp : Hope X σ m H (lBin g la lb ρ S)) :
    wpAny (model X.prog X.w) X.A (eval a X.env) (fun v s₁ => wpAny (model X.prog X.w) X.A (eval b X.env) (fun u s₂ => wpAny (model X.prog X.w) X.A (f v u) (VPr X pins σ m H (lBin g la lb ρ S)) X.xe s₂) X.xe s₁) X.xe s := by
  refine run_seq ha I x r hp fun dx S1 q1 v u s1 H1 m1 I1 rv e1 x1 w1 r1 hp1 => ?_
  refine run_seq hb I1 x1 r1 hp1 fun dy S2 q2 v2 u2 s2 H2 m2 I2 rv2 e2 x2 w2 r2 hp2 => ?_
  obtain ⟨d, q3⟩ := lift_ok hp2
  have e : lBin g la lb ρ S = .ok d S2 := by
    unfold lBin; rw [q1, bind_ok, q2, bind_ok, q3]; rfl
  rw [e]
  exact thn (ho.run pins s2 σ H2 m2 S2 v v2 dx dy d u u2 I2 x2 (w1.ext e2 x1.muts) w2 rv rv2 q3) fun _ _ z => (vpr_of z).left (e1.trans e2)
theorem pel_op {op : Operator} {g : G2} (ho : OpL X (binaryOp op) g) (ha : PEL X a la) (hb : PEL X b lb) : PEL X (.BinOp a op b pos) (lBin g la lb) :=
  ⟨fun pins s σ H m ρ S I x r hp => wpAny_BinOp (run_bin ha hb ho I x r hp)⟩
theorem pel_cmp {op : CmpOp} {g : G2} (ho : OpL X (compareOp op) g) (ha : PEL X a la) (hb : PEL X b lb) (hm : behindInMarks op b = false := by first | exact nobehind _ (by decide) (by decide) | rfl) : PEL X (.Compare a [op] [b] pos) (lBin g la lb) :=
  ⟨fun pins s σ H m ρ S I x r hp => wpAny_Compare1 (run_bin ha hb ho I x r hp) hm⟩
/-- a one-place operation -/
structure UnL (X : Cx) (f : Value → Sem Value) (g : Sto → D → Option D) : Prop where
  run : ∀ (pins : List (Addr × Obj)) (s : Shared) (σ : L2.St) (H : Hp) (m : List Addr) (S : Sto) (x : V) (dx d : D) (v : Value), Inv X pins σ H s → SR X.K m H S → VR X.K m H x dx → RelV x v → g S dx = some d →
    wpAny (model X.prog X.w) X.A (f v) (VP X pins σ m H d S) X.xe s
def lUn (g : Sto → D → Option D) (la : LE) : LE := fun ρ S => (la ρ S).bind fun x S1 => lift1 (g S1 x) S1
theorem pel_un {op : UnaryOp} {g : Sto → D → Option D} (ho : UnL X (unaryOp op) g) (ha : PEL X a la) : PEL X (.UnaryOp op a pos) (lUn g la) := by
  refine ⟨fun pins s σ H m ρ S I x r hp => ?_⟩
  refine UnaryOp_ (run_seq ha I x r hp fun dx S1 q1 v u s1 H1 m1 I1 rv e1 x1 w1 r1 hp1 => ?_)
  obtain ⟨d, q3⟩ := lift_ok hp1
  have e : lUn g la ρ S = .ok d S1 := by
    unfold lUn; rw [q1, bind_ok, q3]; rfl
  rw [e]
  exact thn (ho.run pins s1 σ H1 m1 S1 v dx d u I1 x1 w1 rv q3) fun _ _ z => (vpr_of z).left e1
def gNeg (S : Sto) : D → Option D
  | .int i => some (.int (-i))
  | _ => none
theorem unl_neg : UnL X (unaryOp .USub) gNeg := ⟨fun pins s σ H m S x dx d v I q rx ev e => by
  cases rx with
  | int i => cases e; exact thn (un_neg pins s σ H _ v _ I ev ⟨i, rfl, qv_same q (.int _)⟩) fun _ _ z => vp_of z
  | _ => cases e⟩

/-! ### tests -/
/-- truth of a value -/
def truth (S : Sto) (d : D) : Option Bool := match vw S d with
  | .non => some false
  | .bl b => some b
  | .int i => some (i != 0)
  | .str s => if s.length ≤ sizeLine then some ((s.length : Int) != 0) else none
  | .tup xs => some (!xs.isEmpty)
  | .lst xs => some (!xs.isEmpty)
  | _ => none
theorem tru_of {K : PySem.W.Frag} {m : List Addr} {H : Hp} {S : Sto} {v : V} {d : D} {k : Bool} (x : SR K m H S) (r : VR K m H v d) (h : truth S d = some k) : TruV K v H k := by
  unfold truth at h
  split at h
  · rename_i e
    have : v = .non := by
      cases r with
      | non => rfl
      | @ref i a h' =>
        dsimp only [vw] at e
        cases q : S[i]? with
        | none => rw [q] at e; cases e
        | some ob => rw [q] at e; cases ob <;> cases e
      | _ => cases e
    subst this; cases h; rfl
  · rename_i b e
    rw [vw_bl r e]; cases h; rfl
  · rename_i b e
    rw [vw_int r e]; cases h; rfl
  · rename_i b e
    rw [vw_str r e]
    split at h
    · cases h; exact ⟨‹_›, rfl⟩
    · cases h
  · rename_i b e
    obtain ⟨a, vs, rfl, h1, h2⟩ := vw_tup r e
    cases h
    exact .inr (.inl ⟨vs, SqT.of h1, by cases h2 <;> rfl⟩)
  · rename_i b e
    obtain ⟨a, vs, rfl, h1, h2⟩ := vw_lst x r e
    cases h
    exact .inl ⟨vs, h1, by cases h2 <;> rfl⟩
  · cases h
def liftB (o : Option Bool) (S : Sto) : R Bool := match o with
  | some d => .ok d S
  | none => .bad
def tTru (l : LE) : LT := fun ρ S => (l ρ S).bind fun d S1 => liftB (truth S1 d) S1
theorem liftB_ok {o : Option Bool} {S : Sto} {X : Cx} {σ : L2.St} {m : List Addr} {H : Hp} (h : Hope X σ m H (liftB o S)) : ∃ d, o = some d := by
  cases o with
  | none => exact absurd rfl h.1
  | some d => exact ⟨d, rfl⟩
theorem tru_run {pins : List (Addr × Obj)} {s s1 : Shared} {σ : L2.St} {H H1 : Hp} {m m1 : List Addr} {ρ : Ev} {S S1 : Sto} {d : D} {v : V} {u : Value} (q1 : l ρ S = .ok d S1) (I1 : Inv X pins σ H1 s1) (rv : RelV v u) (e1 : Ext m H m1 H1) (x1 : SR X.K m1 H1 S1) (w1 : VR X.K m1 H1 v d) (hp1 : Hope X σ m1 H1 (liftB (truth S1 d) S1)) :
    wpAny (model X.prog X.w) X.A (truthy u) (TPr X pins σ m H (tTru l ρ S)) X.xe s1 := by
  obtain ⟨b, q3⟩ := liftB_ok hp1
  have e : tTru l ρ S = .ok b S1 := by
    unfold tTru; rw [q1, bind_ok, q3]; rfl
  rw [e]
  refine thn (tru_ok pins s1 σ H1 v u (fun c H' => c = b ∧ H' = H1) I1 rv ⟨b, tru_of x1 w1 q3, rfl, rfl⟩) fun c s2 ⟨H2, I2, ec, eh⟩ => ?_
  subst ec eh
  exact ⟨S1, H2, m1, rfl, I2, e1, x1⟩
theorem ptl_truth (ha : PEL X a l) (he : ∀ whole, isTrue a X.env whole = (do let v ← whole; standAt a.pos; holding [v] (truthy v)) := by intro _; rfl) : PTL X a (tTru l) :=
  ⟨fun pins s σ H m ρ S I x r hp => isTrue_plain (run_seq ha I x r hp fun d S1 q1 v u s1 H1 m1 I1 rv e1 x1 w1 r1 hp1 => tru_run (s := s) q1 I1 rv e1 x1 w1 hp1) (he _)⟩
theorem ptl_cmp {op : CmpOp} {g : G2} (ho : OpL X (compareOp op) g) (ha : PEL X a la) (hb : PEL X b lb) (hm : behindInMarks op b = false := by first | exact nobehind _ (by decide) (by decide) | rfl) : PTL X (.Compare a [op] [b] pos) (tTru (lBin g la lb)) := by
  refine ⟨fun pins s σ H m ρ S I x r hp => ?_⟩
  have hp0 : Hope X σ m H (lBin g la lb ρ S) := by
    unfold tTru at hp
    cases q : lBin g la lb ρ S with
    | bad => rw [q] at hp; exact absurd rfl hp.1
    | exc C fs S' => rw [q] at hp; exact hp.exc
    | ok d S1 => exact Hope.ok
  refine wpAny_isTrue_Compare1 (thn (run_bin ha hb ho I x r hp0) fun v s1 h1 => thn h1 fun u s2 h2 => thn h2 fun w s3 ⟨d, S3, q, v3, H3, m3, I3, rv, e3, x3, w3⟩ => ?_) hm
  refine tru_run (s := s) q I3 rv e3 x3 w3 ?_
  unfold tTru at hp
  rw [q, bind_ok] at hp
  exact hp.ext e3
/-- and, or, not in tests -/
structure PWL (X : Cx) (e : Expr) (l : LT) : Prop where
  run : ∀ (whole : Sem Value) (pins : List (Addr × Obj)) (s : Shared) (σ : L2.St) (H : Hp) (m : List Addr) (ρ : Ev) (S : Sto), Inv X pins σ H s → SR X.K m H S → ER X.K m H σ ρ → Hope X σ m H (l ρ S) →
    wpAny (model X.prog X.w) X.A (isTrue e X.env whole) (TPr X pins σ m H (l ρ S)) X.xe s
theorem PWL.pt {l : LT} (h : PWL X e l) : PTL X e l := ⟨h.run _⟩
variable {ta tb tc : LT} {rest : List Expr}
def tAnd (ta tb : LT) : LT := fun ρ S => (ta ρ S).bind fun b S1 => if b = true then tb ρ S1 else .ok false S1
def tOr (ta tb : LT) : LT := fun ρ S => (ta ρ S).bind fun b S1 => if b = true then .ok true S1 else tb ρ S1
def tNot (ta : LT) : LT := fun ρ S => (ta ρ S).bind fun b S1 => .ok (!b) S1
theorem tpr_ok {pins : List (Addr × Obj)} {σ : L2.St} {H H1 : Hp} {m m1 : List Addr} {S1 : Sto} {b : Bool} {s1 : Shared} {r : R Bool} (I1 : Inv X pins σ H1 s1) (e1 : Ext m H m1 H1) (x1 : SR X.K m1 H1 S1) (q : r = .ok b S1) : TPr X pins σ m H r b s1 := ⟨S1, H1, m1, q, I1, e1, x1⟩
theorem pwl_and1 (ha : PTL X a ta) : PWL X (.BoolOp .And [a] pos) ta := by
  refine ⟨fun wh pins s σ H m ρ S I x r hp => ?_⟩
  refine isTrue_and (thn (ha.run pins s σ H m ρ S I x r hp) fun c s1 e => ?_)
  cases c with
  | true => exact isTrue_and_nil e
  | false => exact e
theorem pwl_or1 (ha : PTL X a ta) : PWL X (.BoolOp .Or [a] pos) ta := by
  refine ⟨fun wh pins s σ H m ρ S I x r hp => ?_⟩
  refine isTrue_or (thn (ha.run pins s σ H m ρ S I x r hp) fun c s1 e => ?_)
  cases c with
  | false => exact isTrue_or_nil e
  | true => exact e
theorem pwl_and (ha : PTL X a ta) (hb : PWL X (.BoolOp .And (b :: rest) pos) tb) : PWL X (.BoolOp .And (a :: b :: rest) pos) (tAnd ta tb) := by
  refine ⟨fun wh pins s σ H m ρ S I x r hp => ?_⟩
  refine isTrue_and (run_seqT ha I x r hp fun c S1 q1 s1 H1 m1 I1 e1 x1 r1 hp1 => ?_)
  cases c with
  | true =>
    have e : tAnd ta tb ρ S = tb ρ S1 := by unfold tAnd; rw [q1]; rfl
    rw [e]
    exact thn (hb.run wh pins s1 σ H1 m1 ρ S1 I1 x1 r1 hp1) fun _ _ z => z.left e1
  | false => exact tpr_ok I1 e1 x1 (by unfold tAnd; rw [q1]; rfl)
theorem pwl_or (ha : PTL X a ta) (hb : PWL X (.BoolOp .Or (b :: rest) pos) tb) : PWL X (.BoolOp .Or (a :: b :: rest) pos) (tOr ta tb) := by
  refine ⟨fun wh pins s σ H m ρ S I x r hp => ?_⟩
  refine isTrue_or (run_seqT ha I x r hp fun c S1 q1 s1 H1 m1 I1 e1 x1 r1 hp1 => ?_)
  cases c with
  | false =>
    have e : tOr ta tb ρ S = tb ρ S1 := by unfold tOr; rw [q1]; rfl
    rw [e]
    exact thn (hb.run wh pins s1 σ H1 m1 ρ S1 I1 x1 r1 hp1) fun _ _ z => z.left e1
  | true => exact tpr_ok I1 e1 x1 (by unfold tOr; rw [q1]; rfl)
theorem ptl_not (ha : PTL X a ta) : PTL X (.UnaryOp .Not a pos) (tNot ta) := by
  refine ⟨fun pins s σ H m ρ S I x r hp => ?_⟩
  refine isTrue_not (run_seqT ha I x r hp fun c S1 q1 s1 H1 m1 I1 e1 x1 r1 hp1 => ?_)
  exact tpr_ok I1 e1 x1 (by unfold tNot; rw [q1, bind_ok])
end
end MP

namespace MP
open PySem PySem.Spec PyProof.Rows L2

section
variable {X : Cx} {a b c e o : Expr} {la lb lc l lo : LE} {pos : Pos} {es rest : List Expr} {t : LA} {tc : LT}
/-! ### and, or, not, if .. else as values -/
def lAndV (la lb : LE) : LE := fun ρ S => (la ρ S).bind fun d S1 => (liftB (truth S1 d) S1).bind fun k S2 => if k = true then lb ρ S2 else .ok d S2
def lOrV (la lb : LE) : LE := fun ρ S => (la ρ S).bind fun d S1 => (liftB (truth S1 d) S1).bind fun k S2 => if k = true then .ok d S2 else lb ρ S2
def lNotV (la : LE) : LE := fun ρ S => (la ρ S).bind fun d S1 => (liftB (truth S1 d) S1).bind fun k S2 => .ok (.bl (!k)) S2
theorem pel_one {op : BoolOp} (h : PEL X a l) : PEL X (.BoolOp op [a] pos) l := ⟨fun pins s σ H m ρ S I x r hp => BoolOp_one (h.run pins s σ H m ρ S I x r hp)⟩
theorem bind_liftB {α : Type} {ob : Option Bool} {S : Sto} {f : Bool → Sto → R α} {X : Cx} {σ : L2.St} {m : List Addr} {H : Hp} (h : Hope X σ m H ((liftB ob S).bind f)) : ∃ k, ob = some k := by
  cases ob with
  | none => exact absurd rfl h.1
  | some k => exact ⟨k, rfl⟩
theorem tru_step {pins : List (Addr × Obj)} {s1 : Shared} {σ : L2.St} {H1 : Hp} {m1 : List Addr} {S1 : Sto} {d : D} {v : V} {u : Value} {k : Bool} (I1 : Inv X pins σ H1 s1) (rv : RelV v u) (x1 : SR X.K m1 H1 S1) (w1 : VR X.K m1 H1 v d) (hk : truth S1 d = some k) {Q : Bool → Shared → Prop}
    (h : ∀ s2, Inv X pins σ H1 s2 → Q k s2) : wpAny (model X.prog X.w) X.A (truthy u) Q X.xe s1 :=
  thn (tru_ok pins s1 σ H1 v u (fun c H' => c = k ∧ H' = H1) I1 rv ⟨k, tru_of x1 w1 hk, rfl, rfl⟩) fun c s2 ⟨H2, I2, ec, eh⟩ => by
    subst ec eh
    exact h s2 I2
theorem pel_and (ha : PEL X a la) (hb : PEL X (.BoolOp .And (b :: rest) pos) lb) : PEL X (.BoolOp .And (a :: b :: rest) pos) (lAndV la lb) := by
  refine ⟨fun pins s σ H m ρ S I x r hp => ?_⟩
  refine BoolOp_and (run_seq ha I x r hp fun d S1 q1 v u s1 H1 m1 I1 rv e1 x1 w1 r1 hp1 => ?_)
  obtain ⟨k, hk⟩ := bind_liftB hp1
  refine tru_step I1 rv x1 w1 hk fun s2 I2 => ?_
  have e0 : lAndV la lb ρ S = if k = true then lb ρ S1 else .ok d S1 := by unfold lAndV; rw [q1, bind_ok, hk]; rfl
  rw [hk] at hp1
  rw [e0]
  cases k with
  | true => exact thn (hb.run pins s2 σ H1 m1 ρ S1 I2 x1 r1 hp1) fun _ _ z => z.left e1
  | false => exact ⟨d, S1, rfl, v, H1, m1, I2, rv, e1, x1, w1⟩
theorem pel_or (ha : PEL X a la) (hb : PEL X (.BoolOp .Or (b :: rest) pos) lb) : PEL X (.BoolOp .Or (a :: b :: rest) pos) (lOrV la lb) := by
  refine ⟨fun pins s σ H m ρ S I x r hp => ?_⟩
  refine BoolOp_or (run_seq ha I x r hp fun d S1 q1 v u s1 H1 m1 I1 rv e1 x1 w1 r1 hp1 => ?_)
  obtain ⟨k, hk⟩ := bind_liftB hp1
  refine tru_step I1 rv x1 w1 hk fun s2 I2 => ?_
  have e0 : lOrV la lb ρ S = if k = true then .ok d S1 else lb ρ S1 := by unfold lOrV; rw [q1, bind_ok, hk]; rfl
  rw [hk] at hp1
  rw [e0]
  cases k with
  | false => exact thn (hb.run pins s2 σ H1 m1 ρ S1 I2 x1 r1 hp1) fun _ _ z => z.left e1
  | true => exact ⟨d, S1, rfl, v, H1, m1, I2, rv, e1, x1, w1⟩
theorem pel_not (ha : PEL X a la) : PEL X (.UnaryOp .Not a pos) (lNotV la) := by
  refine ⟨fun pins s σ H m ρ S I x r hp => ?_⟩
  refine UnaryOp_ (run_seq ha I x r hp fun d S1 q1 v u s1 H1 m1 I1 rv e1 x1 w1 r1 hp1 => ?_)
  obtain ⟨k, hk⟩ := bind_liftB hp1
  refine not_of (tru_step I1 rv x1 w1 hk fun s2 I2 => ?_)
  have e0 : lNotV la ρ S = .ok (.bl (!k)) S1 := by unfold lNotV; rw [q1, bind_ok, hk]; rfl
  rw [e0]
  exact ⟨_, S1, rfl, .bl (!k), H1, m1, I2, rfl, e1, x1, .bl _⟩
def lIf (t : LT) (la lb : LE) : LE := fun ρ S => (t ρ S).bind fun k S1 => if k = true then la ρ S1 else lb ρ S1
theorem pel_ifExp (hc : PTL X c tc) (ha : PEL X a la) (hb : PEL X b lb) : PEL X (.IfExp c a b pos) (lIf tc la lb) := by
  refine ⟨fun pins s σ H m ρ S I x r hp => ?_⟩
  refine wpAny_IfExp (run_seqT hc I x r hp fun k S1 q1 s1 H1 m1 I1 e1 x1 r1 hp1 => ?_)
  have e0 : lIf tc la lb ρ S = if k = true then la ρ S1 else lb ρ S1 := by unfold lIf; rw [q1]; rfl
  rw [e0]
  cases k with
  | true => exact thn (ha.run pins s1 σ H1 m1 ρ S1 I1 x1 r1 hp1) fun _ _ z => z.left e1
  | false => exact thn (hb.run pins s1 σ H1 m1 ρ S1 I1 x1 r1 hp1) fun _ _ z => z.left e1

/-! ### arguments, displays -/
def aNil : LA := fun _ S => .ok [] S
def aCons (la : LE) (t : LA) : LA := fun ρ S => (la ρ S).bind fun d S1 => (t ρ S1).bind fun ds S2 => .ok (d :: ds) S2
theorem pal_nil : PAL X [] aNil := ⟨fun pos pins s σ H m ρ S I x r hp => Calls.spliced_nil ⟨[], S, [], H, m, rfl, I, .nil, Ext.refl, x, .nil⟩⟩
theorem pal_cons (ha : PEL X e la) (hr : PAL X es t) (hs : starEach (e :: es) X.env = (false, eval e X.env) :: starEach es X.env := by rfl) : PAL X (e :: es) (aCons la t) := by
  refine ⟨fun pos pins s σ H m ρ S I x r hp => ?_⟩
  rw [hs]
  show wpAny _ _ (spliced ((false, eval e X.env) :: backTo pos (starEach es X.env))) _ _ s
  refine Calls.spliced_cons (run_seq ha I x r hp fun d S1 q1 v u s1 H1 m1 I1 rv e1 x1 w1 r1 hp1 => ?_)
  refine run_seqA hr I1 x1 r1 hp1 fun ds S2 q2 vs us s2 H2 m2 I2 rvs e2 x2 w2 r2 hp2 => ?_
  exact ⟨d :: ds, S2, v :: vs, H2, m2, by unfold aCons; rw [q1, bind_ok, q2, bind_ok], I2, .cons rv rvs, e1.trans e2, x2, .cons (w1.ext e2 x1.muts) w2⟩
def lTup (t : LA) : LE := fun ρ S => (t ρ S).bind fun ds S1 => if ds.length ≤ sizeLine then .ok (.tup ds) S1 else .bad
def lLst (t : LA) : LE := fun ρ S => (t ρ S).bind fun ds S1 => if ds.length ≤ sizeLine then .ok (.lst ds) S1 else .bad
/-- a list that is put into the store -/
def lLstN (t : LA) : LE := fun ρ S => (t ρ S).bind fun ds S1 => if ds.length ≤ sizeLine then .ok (.ref S1.length) (S1 ++ [.lst ds]) else .bad
theorem hope_if {α : Type} {p : Prop} [Decidable p] {r : R α} {X : Cx} {σ : L2.St} {m : List Addr} {H : Hp} (h : Hope X σ m H (if p then r else .bad)) : p := by
  by_cases q : p
  · exact q
  · rw [if_neg q] at h; exact absurd rfl h.1
theorem pel_tup {x1 : Nat} (h : PAL X es t) : PEL X (.Tuple es x1 pos) (lTup t) := by
  refine ⟨fun pins s σ H m ρ S I x r hp => ?_⟩
  refine wpAny_Tuple_spliced (run_seqA h I x r hp fun ds S1 q1 vs us s1 H1 m1 I1 rv e1 x1 w1 r1 hp1 => ?_)
  have hz := hope_if hp1
  refine ⟨by rw [← rv.length, w1.length]; exact hz, ?_⟩
  have hf : H1 s1.heap.objs.size = none := I1.hok.fresh (Nat.le_refl _)
  have e0 : lTup t ρ S = .ok (.tup ds) S1 := by unfold lTup; rw [q1, bind_ok, if_pos hz]
  rw [e0]
  refine (vpr_of ⟨.ref s1.heap.objs.size, upd H1 s1.heap.objs.size (.tup vs), m1, I1.laid (t' := s1.toks) (fun b u e => Heap.get?_push_of_some _ e) (Nat.le_refl _) ?_, rfl, Ext.fresh hf, x1.fresh hf, vr_newTup x1 hf w1⟩).left e1
  exact ⟨by rw [w1.length]; exact hz, us, rv, ⟨_, Heap.get?_push_size _ rfl, rfl, _, rfl⟩⟩
theorem pel_lst (h : PAL X es t) : PEL X (.List es pos) (lLst t) := by
  refine ⟨fun pins s σ H m ρ S I x r hp => ?_⟩
  refine wpAny_List_spliced (run_seqA h I x r hp fun ds S1 q1 vs us s1 H1 m1 I1 rv e1 x1 w1 r1 hp1 => ?_)
  have hz := hope_if hp1
  refine ⟨by rw [← rv.length, w1.length]; exact hz, ?_⟩
  have hf : H1 s1.heap.objs.size = none := I1.hok.fresh (Nat.le_refl _)
  have e0 : lLst t ρ S = .ok (.lst ds) S1 := by unfold lLst; rw [q1, bind_ok, if_pos hz]
  rw [e0]
  refine (vpr_of ⟨.ref s1.heap.objs.size, upd H1 s1.heap.objs.size (.lst vs), m1, I1.laid (t' := s1.toks) (fun b u e => Heap.get?_push_of_some _ e) (Nat.le_refl _) ?_, rfl, Ext.fresh hf, x1.fresh hf, vr_newLst x1 hf w1⟩).left e1
  exact ⟨by rw [w1.length]; exact hz, us, 0, rv, Heap.get?_push_size _ rfl⟩
theorem pel_lstN (h : PAL X es t) : PEL X (.List es pos) (lLstN t) := by
  refine ⟨fun pins s σ H m ρ S I x r hp => ?_⟩
  refine wpAny_List_spliced (run_seqA h I x r hp fun ds S1 q1 vs us s1 H1 m1 I1 rv e1 x1 w1 r1 hp1 => ?_)
  have hz := hope_if hp1
  refine ⟨by rw [← rv.length, w1.length]; exact hz, ?_⟩
  have hf : H1 s1.heap.objs.size = none := I1.hok.fresh (Nat.le_refl _)
  have e0 : lLstN t ρ S = .ok (.ref S1.length) (S1 ++ [.lst ds]) := by unfold lLstN; rw [q1, bind_ok, if_pos hz]
  rw [e0]
  obtain ⟨m', z1, z2, z3⟩ := qv_newL x1 hf w1
  refine (vpr_of ⟨.ref s1.heap.objs.size, upd H1 s1.heap.objs.size (.lst vs), m', I1.laid (t' := s1.toks) (fun b u e => Heap.get?_push_of_some _ e) (Nat.le_refl _) ?_, rfl, z1, z2, z3⟩).left e1
  exact ⟨by rw [w1.length]; exact hz, us, 0, rv, Heap.get?_push_size _ rfl⟩

/-! ### chains a < b < c -/
def lChain (g g' : G2) (la lb lc : LE) : LE := fun ρ S => (la ρ S).bind fun x S1 => (lb ρ S1).bind fun y S2 => (lift1 (g S2 x y) S2).bind fun d S3 => match d with
  | .bl true => (lc ρ S3).bind fun z S4 => lift1 (g' S4 y z) S4
  | .bl false => .ok (.bl false) S3
  | _ => .bad
theorem ptl_chain {op op' : CmpOp} {g g' : G2} (ho : OpL X (compareOp op) g) (ho' : OpL X (compareOp op') g') (ha : PEL X a la) (hb : PEL X b lb) (hc : PEL X c lc)
    (hm : lastMarks [op, op'] [b, c] = false := by with_unfolding_all rfl) : PTL X (.Compare a [op, op'] [b, c] pos) (tTru (lChain g g' la lb lc)) := by
  refine ⟨fun pins s σ H m ρ S I x r hp => ?_⟩
  have hp0 : Hope X σ m H (lChain g g' la lb lc ρ S) := by
    unfold tTru at hp
    cases q : lChain g g' la lb lc ρ S with
    | bad => rw [q] at hp; exact absurd rfl hp.1
    | exc C fs S' => rw [q] at hp; exact hp.exc
    | ok d S1 => exact Hope.ok
  refine isTrue_chain (run_seq ha I x r hp0 fun dx S1 q1 v u s1 H1 m1 I1 rv e1 x1 w1 r1 hp1 => test_link (run_seq hb I1 x1 r1 hp1 fun dy S2 q2 v2 u2 s2 H2 m2 I2 rv2 e2 x2 w2 r2 hp2 => ?_)) hm
  cases q3 : g S2 dx dy with
  | none => rw [q3] at hp2; exact absurd rfl hp2.1
  | some d =>
    refine thn (ho.run pins s2 σ H2 m2 S2 v v2 dx dy d u u2 I2 x2 (w1.ext e2 x1.muts) w2 rv rv2 q3) fun w s3 ⟨v3, H3, m3, I3, rv3, e3, x3, w3⟩ => ?_
    rw [q3] at hp2
    have r3 := r2.ext e3 x2.muts
    have hp3 := hp2.ext e3
    cases w3 with
    | bl k =>
      cases rv3
      refine wpAny_truthy_bool ?_
      cases k with
      | false =>
        refine ite_ff ?_
        have e0 : lChain g g' la lb lc ρ S = .ok (.bl false) S2 := by unfold lChain; rw [q1, bind_ok, q2, bind_ok, q3]; rfl
        exact ⟨S2, H3, m3, by unfold tTru; rw [e0]; rfl, I3, (e1.trans e2).trans e3, x3⟩
      | true =>
        have e0 : lChain g g' la lb lc ρ S = (lc ρ S2).bind fun z S4 => lift1 (g' S4 dy z) S4 := by unfold lChain; rw [q1, bind_ok, q2, bind_ok, q3]; rfl
        refine ite_tt (test_last (run_seq hc I3 x3 r3 (show Hope X σ m3 H3 ((lc ρ S2).bind fun z S4 => lift1 (g' S4 dy z) S4) from hp3) fun dz S4 q4 v4 u4 s4 H4 m4 I4 rv4 e4 x4 w4 r4 hp4 => ?_))
        obtain ⟨dd, q5⟩ := lift_ok hp4
        have e5 : lChain g g' la lb lc ρ S = .ok dd S4 := by rw [e0, q4, bind_ok, q5]; rfl
        refine thn (ho'.run pins s4 σ H4 m4 S4 v2 v4 dy dz dd u2 u4 I4 x4 ((w2.ext e3 x2.muts).ext e4 x3.muts) w4 rv2 rv4 q5) fun w' s5 ⟨v5, H5, m5, I5, rv5, e5', x5, w5⟩ => ?_
        refine tru_run (s := s) e5 I5 rv5 ((((e1.trans e2).trans e3).trans e4).trans e5') x5 w5 ?_
        unfold tTru at hp
        rw [e5, bind_ok] at hp
        exact hp.ext ((((e1.trans e2).trans e3).trans e4).trans e5')
    | _ => exact absurd rfl hp2.1
theorem pel_chain {op op' : CmpOp} {g g' : G2} (ho : OpL X (compareOp op) g) (ho' : OpL X (compareOp op') g') (ha : PEL X a la) (hb : PEL X b lb) (hc : PEL X c lc)
    (hm : lastMarks [op, op'] [b, c] = false := by with_unfolding_all rfl) : PEL X (.Compare a [op, op'] [b, c] pos) (lChain g g' la lb lc) := by
  refine ⟨fun pins s σ H m ρ S I x r hp0 => ?_⟩
  refine Compare_chain (run_seq ha I x r hp0 fun dx S1 q1 v u s1 H1 m1 I1 rv e1 x1 w1 r1 hp1 => chain_link (run_seq hb I1 x1 r1 hp1 fun dy S2 q2 v2 u2 s2 H2 m2 I2 rv2 e2 x2 w2 r2 hp2 => ?_)) hm
  cases q3 : g S2 dx dy with
  | none => rw [q3] at hp2; exact absurd rfl hp2.1
  | some d =>
    refine thn (ho.run pins s2 σ H2 m2 S2 v v2 dx dy d u u2 I2 x2 (w1.ext e2 x1.muts) w2 rv rv2 q3) fun w s3 ⟨v3, H3, m3, I3, rv3, e3, x3, w3⟩ => ?_
    rw [q3] at hp2
    have r3 := r2.ext e3 x2.muts
    have hp3 := hp2.ext e3
    cases w3 with
    | bl k =>
      cases rv3
      refine wpAny_truthy_bool ?_
      cases k with
      | false =>
        refine ite_ff ?_
        have e0 : lChain g g' la lb lc ρ S = .ok (.bl false) S2 := by unfold lChain; rw [q1, bind_ok, q2, bind_ok, q3]; rfl
        exact ⟨_, S2, e0, .bl false, H3, m3, I3, rfl, (e1.trans e2).trans e3, x3, .bl _⟩
      | true =>
        have e0 : lChain g g' la lb lc ρ S = (lc ρ S2).bind fun z S4 => lift1 (g' S4 dy z) S4 := by unfold lChain; rw [q1, bind_ok, q2, bind_ok, q3]; rfl
        refine ite_tt (chain_last (run_seq hc I3 x3 r3 (show Hope X σ m3 H3 ((lc ρ S2).bind fun z S4 => lift1 (g' S4 dy z) S4) from hp3) fun dz S4 q4 v4 u4 s4 H4 m4 I4 rv4 e4 x4 w4 r4 hp4 => ?_))
        obtain ⟨dd, q5⟩ := lift_ok hp4
        have e5 : lChain g g' la lb lc ρ S = .ok dd S4 := by rw [e0, q4, bind_ok, q5]; rfl
        rw [e5]
        exact thn (ho'.run pins s4 σ H4 m4 S4 v2 v4 dy dz dd u2 u4 I4 x4 ((w2.ext e3 x2.muts).ext e4 x3.muts) w4 rv2 rv4 q5) fun w' s5 z => (vpr_of z).left (((e1.trans e2).trans e3).trans e4)
    | _ => exact absurd rfl hp2.1
end
end MP

namespace MP
open PySem PySem.Spec PyProof.Rows L2

section
variable {X : Cx} {a b c e o : Expr} {la lb lc l lo : LE} {pos p apos cpos : Pos} {es rest : List Expr} {t : LA} {tc : LT} {x : Str}
/-! ### subscripts -/
structure IxL (X : Cx) (g : G2) : Prop where
  run : ∀ (value slice : Expr) (pins : List (Addr × Obj)) (s : Shared) (σ : L2.St) (H : Hp) (m : List Addr) (S : Sto) (x y : V) (dx dy d : D) (v u : Value), Inv X pins σ H s → SR X.K m H S → VR X.K m H x dx → VR X.K m H y dy → RelV x v → RelV y u → g S dx dy = some d →
    (∀ o i, subscripted slice false o i = operate [o, i] (getItem o i)) → wpAny (model X.prog X.w) X.A (subscriptTail value slice v u) (VP X pins σ m H d S) X.xe s
theorem IxL.of {r : R2} {g : G2} (h : IxR X r)
    (hg : ∀ (H : Hp) (m : List Addr) (S : Sto) (x y : V) (dx dy d : D), SR X.K m H S → VR X.K m H x dx → VR X.K m H y dy → g S dx dy = some d → r x y H (QV X.K m H S d)) : IxL X g :=
  ⟨fun value slice pins s σ H m S x y dx dy d v u I q rx ry ex ey e hs => thn (h value slice pins s σ H x y v u _ I ex ey (hg H m S x y dx dy d q rx ry e) (hs _ _)) fun _ _ z => vp_of z⟩
theorem IxL.or {g g' : G2} (h : IxL X g) (h' : IxL X g') : IxL X (fun S x y => (g S x y).or (g' S x y)) :=
  ⟨fun value slice pins s σ H m S x y dx dy d v u I q rx ry ex ey e hs => by
    cases z : g S dx dy with
    | some d' =>
      rw [z] at e
      cases e
      exact h.run value slice pins s σ H m S x y dx dy _ v u I q rx ry ex ey z hs
    | none =>
      rw [z] at e
      exact h'.run value slice pins s σ H m S x y dx dy _ v u I q rx ry ex ey e hs⟩
theorem pel_ix {g : G2} (hr : IxL X g) (ha : PEL X a la) (hb : PEL X b lb) (hs : PlainIx b := by intro _ _; rfl) : PEL X (.Subscript a b pos) (lBin g la lb) := by
  refine ⟨fun pins s σ H m ρ S I x r hp => ?_⟩
  refine Subscript_ (run_seq ha I x r hp fun dx S1 q1 v u s1 H1 m1 I1 rv e1 x1 w1 r1 hp1 => run_seq hb I1 x1 r1 hp1 fun dy S2 q2 v2 u2 s2 H2 m2 I2 rv2 e2 x2 w2 r2 hp2 => ?_)
  obtain ⟨d, q3⟩ := lift_ok hp2
  have e : lBin g la lb ρ S = .ok d S2 := by
    unfold lBin; rw [q1, bind_ok, q2, bind_ok, q3]; rfl
  rw [e]
  exact thn (hr.run a b pins s2 σ H2 m2 S2 v v2 dx dy d u u2 I2 x2 (w1.ext e2 x1.muts) w2 rv rv2 q3 hs) fun _ _ z => (vpr_of z).left (e1.trans e2)
def gIx : G2 := fun S x y => match vw S x, vw S y with
  | .lst xs, .int i => atI xs i
  | .tup xs, .int i => atI xs i
  | .str z, .int i => if z.length ≤ sizeLine then (atI z.cps.toList i).map fun c => .str ⟨#[c]⟩ else none
  | _, _ => none
theorem VRs.atI {K : PySem.W.Frag} {m : List Addr} {H : Hp} {vs : List V} {ds : List D} {i : Int} {d : D} (r : VRs K m H vs ds) (e : atI ds i = some d) : ∃ v, L2.atI vs i = some v ∧ VR K m H v d := by
  unfold L2.atI at e ⊢
  rw [r.length]
  cases q : ixN ds.length i with
  | none => rw [q] at e; cases e
  | some j =>
    rw [q] at e
    exact r.getr e
theorem ixl_seq : IxL X gIx := .of ix_seq fun H m S x y dx dy d q rx ry e => by
  unfold gIx at e
  split at e
  · rename_i xs i e1 e2
    obtain ⟨a, vs, rfl, h1, r⟩ := vw_lst q rx e1
    obtain ⟨v, h2, w⟩ := r.atI e
    exact .inl ⟨a, vs, i, v, rfl, vw_int ry e2, h1, h2, qv_same q w⟩
  · rename_i xs i e1 e2
    obtain ⟨a, vs, rfl, h1, r⟩ := vw_tup rx e1
    obtain ⟨v, h2, w⟩ := r.atI e
    exact .inr (.inl ⟨a, vs, i, v, rfl, vw_int ry e2, SqT.of h1, h2, qv_same q w⟩)
  · rename_i z i e1 e2
    split at e
    · cases h : L2.atI z.cps.toList i with
      | none => rw [h] at e; cases e
      | some c =>
        rw [h] at e
        cases e
        exact .inr (.inr ⟨z, i, c, vw_str rx e1, vw_int ry e2, ‹_›, h, qv_same q (.str _)⟩)
    · cases e
  · cases e

/-! ### slices -/
abbrev LO := Ev → Sto → R (Option Int)
structure POL (X : Cx) (e : Option Expr) (l : LO) : Prop where
  run : ∀ (pins : List (Addr × Obj)) (s : Shared) (σ : L2.St) (H : Hp) (m : List Addr) (ρ : Ev) (S : Sto), Inv X pins σ H s → SR X.K m H S → ER X.K m H σ ρ → Hope X σ m H (l ρ S) →
    wpAny (model X.prog X.w) X.A (evalPart e X.env) (fun u s' => ∃ o S' H' m', l ρ S = .ok o S' ∧ Inv X pins σ H' s' ∧ IsPart u o ∧ Ext m H m' H' ∧ SR X.K m' H' S') X.xe s
def oNone : LO := fun _ S => .ok none S
def oSome (l : LE) : LO := fun ρ S => (l ρ S).bind fun d S1 => match d with
  | .int i => .ok (some i) S1
  | _ => .bad
theorem pol_none : POL X none oNone := ⟨fun pins s σ H m ρ S I x r hp => by
  rw [evalPart_none]
  exact wpAny_pure ⟨none, S, H, m, rfl, I, .none, Ext.refl, x⟩⟩
theorem pol_some (h : PEL X e l) : POL X (some e) (oSome l) := ⟨fun pins s σ H m ρ S I x r hp => by
  rw [evalPart_some]
  refine run_seq h I x r hp fun d S1 q1 v u s1 H1 m1 I1 rv e1 x1 w1 r1 hp1 => ?_
  cases w1 with
  | int i =>
    obtain ⟨t, rfl⟩ := rv
    exact ⟨some i, S1, H1, m1, by unfold oSome; rw [q1]; rfl, I1, .int i t, e1, x1⟩
  | _ => exact absurd rfl hp1.1⟩
def lSlice (g : Sto → D → Option Int → Option Int → Option D) (la : LE) (lo hi : LO) : LE := fun ρ S => (la ρ S).bind fun d S1 => (lo ρ S1).bind fun i S2 => (hi ρ S2).bind fun j S3 => lift1 (g S3 d i j) S3
structure SlL (X : Cx) (g : Sto → D → Option Int → Option Int → Option D) : Prop where
  run : ∀ (pins : List (Addr × Obj)) (s : Shared) (σ : L2.St) (H : Hp) (m : List Addr) (S : Sto) (x : V) (dx d : D) (v vl vu : Value) (lo hi : Option Int) (sl : Addr), Inv X pins σ H s → SR X.K m H S → VR X.K m H x dx → RelV x v → s.heap.IsSliceOf sl vl vu .none → IsPart vl lo → IsPart vu hi → g S dx lo hi = some d →
    ∃ T id, typeLookup (.type T) "__getitem__" = pure (some (.builtin id)) ∧ s.TypeIs v T ∧ wpAny (model X.prog X.w) X.A (getItem v (.ref sl)) (VP X pins σ m H d S) X.xe s
theorem hope_seq {α β : Type} {r : R α} {f : α → Sto → R β} {X : Cx} {σ : L2.St} {m : List Addr} {H : Hp} (h : Hope X σ m H (r.bind f)) : Hope X σ m H r := by
  cases r with
  | bad => exact absurd rfl h.1
  | exc C fs S' => exact h.exc
  | ok a S => exact Hope.ok
theorem pel_slice {g : Sto → D → Option Int → Option Int → Option D} {lo hi : Option Expr} {l1 l2 : LO} {p2 : Pos} (hr : SlL X g) (he : PEL X e l) (hl : POL X lo l1) (hu : POL X hi l2) : PEL X (.Subscript e (.Slice lo hi none p2) pos) (lSlice g l l1 l2) := by
  refine ⟨fun pins s σ H m ρ S I x r hp => ?_⟩
  refine Subscript_ (run_seq he I x r hp fun dx S1 q1 v u s1 H1 m1 I1 rv e1 x1 w1 r1 hp1 => ?_)
  refine wpAny_Slice (thn (hl.run pins s1 σ H1 m1 ρ S1 I1 x1 r1 (hope_seq hp1)) fun vl s2 ⟨i, S2, H2, m2, q2, I2, pl, e2, x2⟩ => ?_)
  rw [q2, bind_ok] at hp1
  have r2 := r1.ext e2 x1.muts
  have hp2 := Hope.ext hp1 e2
  refine thn (hu.run pins s2 σ H2 m2 ρ S2 I2 x2 r2 (hope_seq hp2)) fun vu s3 ⟨j, S3, H3, m3, q3, I3, pu, e3, x3⟩ => ?_
  rw [q3, bind_ok] at hp2
  obtain ⟨d, q4⟩ := lift_ok hp2
  rw [evalPart_none]
  refine wpAny_pure ?_
  have I4 : Inv X pins σ H3 { s3 with heap := s3.heap.push { cls := .type "slice", data := .fields #[vl, vu, .none] } } := I3.kept (t' := s3.toks) fun b ob q => Heap.get?_push_of_some _ q
  have w3 := (w1.ext e2 x1.muts).ext e3 x2.muts
  obtain ⟨T, id, hT, ht, hg⟩ := hr.run pins { s3 with heap := s3.heap.push { cls := .type "slice", data := .fields #[vl, vu, .none] } } σ H3 m3 S3 v dx d u vl vu i j s3.heap.objs.size I4 x3 w3 rv (Heap.IsSliceOf.new ..) pl pu q4
  have e0 : lSlice g l l1 l2 ρ S = .ok d S3 := by unfold lSlice; rw [q1, bind_ok, q2, bind_ok, q3, bind_ok, q4]; rfl
  rw [e0]
  show wpAny (model X.prog X.w) X.A (subscriptTail e (.Slice lo hi none p2) u (.ref s3.heap.objs.size)) _ X.xe { s3 with heap := s3.heap.push { cls := .type "slice", data := .fields #[vl, vu, .none] } }
  exact tail_any (ops := [.ref s3.heap.objs.size, u]) ht hT (thn hg fun _ _ z => (vpr_of z).left ((e1.trans e2).trans e3)) (by with_unfolding_all rfl)
def cutD (xs : List D) (lo hi : Option Int) : List D := (xs.drop (HT.sIx xs.length 0 lo)).take (HT.sIx xs.length xs.length hi - HT.sIx xs.length 0 lo)
theorem VRs.cut {K : PySem.W.Frag} {m : List Addr} {H : Hp} {vs : List V} {ds : List D} (r : VRs K m H vs ds) (lo hi : Option Int) : VRs K m H (cutV vs lo hi) (cutD ds lo hi) := by
  unfold cutV cutD
  rw [r.length]
  exact (r.drop _).take _
def gSlice (S : Sto) (x : D) (lo hi : Option Int) : Option D := match vw S x with
  | .lst xs => some (.lst (cutD xs lo hi))
  | .tup xs => some (.tup (cutD xs lo hi))
  | .str z => if z.length ≤ sizeLine then some (.str (cutS z lo hi)) else none
  | _ => none
theorem sIx_whole (n : Nat) {lo hi : Option Int} {ds : List D} (h : HT.sIx ds.length 0 lo = 0 ∧ HT.sIx ds.length ds.length hi = ds.length) : cutD ds lo hi = ds := by
  unfold cutD
  rw [h.1, h.2]
  simp
theorem sll_any : SlL X gSlice := ⟨fun pins s σ H m S x dx d v vl vu lo hi sl I q rx ev hs pl pu e => by
  unfold gSlice at e
  split at e
  · rename_i xs e1
    cases e
    obtain ⟨a, vs, rfl, h1, r⟩ := vw_lst q rx e1
    obtain ⟨T, id, h2, h3, h4⟩ := sl_list pins s σ H _ v vl vu lo hi sl (QV X.K m H S (.lst (cutD xs lo hi))) I ev hs pl pu ⟨a, vs, rfl, h1, fun p hp => qv_new q hp (vr_newLst q hp (r.cut lo hi))⟩
    exact ⟨T, id, h2, h3, thn h4 fun _ _ z => vp_of z⟩
  · rename_i xs e1
    cases e
    obtain ⟨a, vs, rfl, h1, r⟩ := vw_tup rx e1
    obtain ⟨T, id, h2, h3, h4⟩ := sl_tupA pins s σ H _ v vl vu lo hi sl (QV X.K m H S (.tup (cutD xs lo hi))) I ev hs pl pu
      ⟨a, vs, rfl, SqT.of h1, fun z => qv_same q (by rw [r.length] at z; rw [sIx_whole 0 z]; exact .tup h1 r), fun _ p hp => qv_new q hp (vr_newTup q hp (r.cut lo hi))⟩
    exact ⟨T, id, h2, h3, thn h4 fun _ _ z => vp_of z⟩
  · rename_i z e1
    split at e
    · cases e
      have e2 := vw_str rx e1
      subst e2
      obtain ⟨T, id, h2, h3, h4⟩ := sl_str pins s σ H _ v vl vu lo hi sl (QV X.K m H S (.str (cutS z lo hi))) I ev hs pl pu ⟨z, rfl, ‹_›, qv_same q (.str _)⟩
      exact ⟨T, id, h2, h3, thn h4 fun _ _ z => vp_of z⟩
    · cases e
  · cases e⟩

/-! ### attributes of objects -/
theorem VFs.look {K : PySem.W.Frag} {m : List Addr} {H : Hp} {fs : List (Str × V)} {gs : List (Str × D)} {f : Str} {d : D} : VFs K m H fs gs → gs.lookup f = some d → ∃ v, fs.lookup f = some v ∧ VR K m H v d
  | .nil, e => by simp at e
  | @VFs.cons _ _ _ g v d' vs ds h r, e => by
    by_cases q : f = g
    · subst q
      simp [List.lookup] at e
      subst e
      exact ⟨v, by simp [List.lookup], h⟩
    · have hb : (f == g) = false := beq_eq_false_iff_ne.mpr q
      simp only [List.lookup, hb] at e ⊢
      exact VFs.look r e
theorem VFs.lookN {K : PySem.W.Frag} {m : List Addr} {H : Hp} {fs : List (Str × V)} {gs : List (Str × D)} {f : Str} : VFs K m H fs gs → gs.lookup f = none → fs.lookup f = none
  | .nil, e => rfl
  | @VFs.cons _ _ _ g v d' vs ds h r, e => by
    by_cases q : f = g
    · subst q
      simp [List.lookup] at e
    · have hb : (f == g) = false := beq_eq_false_iff_ne.mpr q
      simp only [List.lookup, hb] at e ⊢
      exact VFs.lookN r e
def gFld (C : Addr) (f : Str) (S : Sto) (d : D) : Option D := match vw S d with
  | .obj C' fs => if C' = C then fs.lookup f else none
  | _ => none
def lFld (C : Addr) (f : Str) (l : LE) : LE := fun ρ S => (l ρ S).bind fun d S1 => lift1 (gFld C f S1 d) S1
theorem pel_fld {C : Addr} {f : Str} (cl : Cls X.K C) (na : NoAttr X.K C f) (he : PEL X e l) (hb : attributeBase e f X.env (eval e X.env) = eval e X.env := by rfl) : PEL X (.Attribute e f pos) (lFld C f l) := by
  refine ⟨fun pins s σ H m ρ S I x r hp => ?_⟩
  refine attr_of hb (run_seq he I x r hp fun d S1 q1 v u s1 H1 m1 I1 rv e1 x1 w1 r1 hp1 => ?_)
  obtain ⟨d', q2⟩ := lift_ok hp1
  have e0 : lFld C f l ρ S = .ok d' S1 := by unfold lFld; rw [q1, bind_ok, q2]; rfl
  rw [e0]
  unfold gFld at q2
  split at q2
  · rename_i C' gs q3
    split at q2
    · rename_i q4
      subst q4
      obtain ⟨a, dx, fs, rfl, h1, r2⟩ := vw_obj x1 w1 q3
      obtain ⟨w, h2, h3⟩ := r2.look q2
      obtain rfl : u = Value.ref a := rv
      exact getattr_ok I1 h1 cl na h2 fun u' s2 I2 ru => (vpr_of ⟨w, H1, m1, I2, ru, Ext.refl, x1, h3⟩).left e1
    · cases q2
  · cases q2

/-! ### built-in functions and types, called by values -/
abbrev GC := Sto → List D → Option D
structure CallL (X : Cx) (f : Value) (g : GC) : Prop where
  run : ∀ (pins : List (Addr × Obj)) (s : Shared) (σ : L2.St) (H : Hp) (m : List Addr) (S : Sto) (xs : List V) (ds : List D) (d : D) (us : List Value), Inv X pins σ H s → SR X.K m H S → VRs X.K m H xs ds → Vals xs us → g S ds = some d →
    wpAny (model X.prog X.w) X.A (call f us) (VP X pins σ m H d S) X.xe s
theorem CallL.of {f : Value} {r : List V → Hp → VK → Prop} {g : GC} (h : CallR X f r) (hg : ∀ (H : Hp) (m : List Addr) (S : Sto) (xs : List V) (ds : List D) (d : D), SR X.K m H S → VRs X.K m H xs ds → g S ds = some d → r xs H (QV X.K m H S d)) : CallL X f g :=
  ⟨fun pins s σ H m S xs ds d us I q r rv e => thn (h pins s σ H xs us _ I rv (hg H m S xs ds d q r e)) fun _ _ z => vp_of z⟩
theorem CallL.or {f : Value} {g g' : GC} (h : CallL X f g) (h' : CallL X f g') : CallL X f (fun S ds => (g S ds).or (g' S ds)) :=
  ⟨fun pins s σ H m S xs ds d us I q r rv e => by
    cases z : g S ds with
    | some d' =>
      rw [z] at e
      cases e
      exact h.run pins s σ H m S xs ds _ us I q r rv z
    | none =>
      rw [z] at e
      exact h'.run pins s σ H m S xs ds _ us I q r rv e⟩
def lCallB (g : GC) (t : LA) : LE := fun ρ S => (t ρ S).bind fun ds S1 => lift1 (g S1 ds) S1
theorem pel_callB {id : String} {g : GC} (hc : CallL X (.builtin id) g) (hg : Gl X x) (hm : X.mg x = none) (hv : bootBuiltins x = some (.builtin id)) (ha : PAL X (e :: es) t) (hn : x ≠ "__name__" := by decide) (hdb : (x == ("__debug__" : Str)) = false := by decide)
    (he : starEach (e :: es) X.env = (false, eval e X.env) :: starEach es X.env := by rfl) (hpl : (backTo pos (starEach es X.env)).any (·.1) = false := by rfl) : PEL X (.Call (.Name x p) (e :: es) [] pos) (lCallB g t) := by
  refine ⟨fun pins s σ H m ρ S I x r hp => ?_⟩
  refine wpAny_Call_Name_kw (ld_blt I hg hm hv ?_ hn hdb)
  refine PyProof.Rows.callWith_builtin1 (run_seqA ha I x r hp fun ds S1 q1 vs us s1 H1 m1 I1 rv e1 x1 w1 r1 hp1 => ?_) he hpl
  obtain ⟨d', q2⟩ := lift_ok hp1
  have e0 : lCallB g t ρ S = .ok d' S1 := by unfold lCallB; rw [q1, bind_ok, q2]; rfl
  rw [e0]
  exact thn (hc.run pins s1 σ H1 m1 S1 vs ds d' us I1 x1 w1 rv q2) fun _ _ z => (vpr_of z).left e1
theorem pel_callTy {T : String} {g : GC} (hc : CallL X (.type T) g) (hg : Gl X x) (hm : X.mg x = none) (hv : bootBuiltins x = some (.type T)) (ha : PAL X (e :: es) t) (hn : x ≠ "__name__" := by decide) (hdb : (x == ("__debug__" : Str)) = false := by decide)
    (he : starEach (e :: es) X.env = (false, eval e X.env) :: starEach es X.env := by rfl) (hpl : (backTo pos (starEach es X.env)).any (·.1) = false := by rfl) : PEL X (.Call (.Name x p) (e :: es) [] pos) (lCallB g t) := by
  refine ⟨fun pins s σ H m ρ S I x r hp => ?_⟩
  refine wpAny_Call_Name_kw (ld_blt I hg hm hv ?_ hn hdb)
  refine PyProof.Rows.callWith_type1 (run_seqA ha I x r hp fun ds S1 q1 vs us s1 H1 m1 I1 rv e1 x1 w1 r1 hp1 => ?_) he hpl
  obtain ⟨d', q2⟩ := lift_ok hp1
  have e0 : lCallB g t ρ S = .ok d' S1 := by unfold lCallB; rw [q1, bind_ok, q2]; rfl
  rw [e0]
  exact thn (hc.run pins s1 σ H1 m1 S1 vs ds d' us I1 x1 w1 rv q2) fun _ _ z => (vpr_of z).left e1
end
end MP

namespace MP
open PySem PySem.Spec PyProof.Rows L2

/-! ### what a def promises, by the store -/
abbrev F := List D → Sto → R D
def spL (K : PySem.W.Frag) (f : F) (n : Nat) : Sp := fun vs H Q E => vs.length = n ∧ ∃ m S ds, SR K m H S ∧ VRs K m H vs ds ∧ f ds S ≠ .bad ∧ (∀ d S', f ds S = .ok d S' → ∀ v H', QV K m H S' d v H' → Q v H') ∧
  ∀ C fs S', f ds S = .exc C fs S' → ∀ cls d H', WL K m H C fs S' cls d H' → E cls d H'
abbrev FnL (P : Program) (w : World) (K : PySem.W.Frag) (mg : Str → Option Value) (base : Heap) (k : Nat) (f : Addr) (fd : FuncData) (ps : List Str) (g : F) : Prop := FnOk P w K mg base (L2.CX P w) k f fd ps (spL K g ps.length)

section
variable {X : Cx} {a b c e o : Expr} {la lb lc l lo : LE} {pos p apos cpos : Pos} {es rest : List Expr} {t : LA} {tc : LT} {x mn : Str} {k : Nat} {f C : Addr} {fd : FuncData} {ps : List Str} {g : F}
theorem run_fnL {pins : List (Addr × Obj)} {σ : L2.St} {H : Hp} {s : Shared} {us ds0 : List Value} {vs dvs : List V} {m : List Addr} {S : Sto} {ds dd : List D} (Fn : FnL X.prog X.w X.K X.mg X.base k f fd ps g) (hr : Room k X.A) (hb : Binds X.K fd ps ds0) (hd : Vals dvs ds0) (hdd : VRs X.K m H dvs dd)
    (I : Inv X pins σ H s) (x : SR X.K m H S) (r : Vals vs us) (rd : VRs X.K m H vs ds) (hl : (vs ++ dvs).length = ps.length) (hp : Hope X σ m H (g (ds ++ dd) S)) :
    wpAny (model X.prog X.w) X.A (call (.ref f) us) (VPr X pins σ m H (g (ds ++ dd) S)) X.xe s := by
  have r2 : Vals (vs ++ dvs) (us ++ ds0) := r.append hd
  have hl2 : (us ++ ds0).length = ps.length := by rw [← r2.length]; exact hl
  have rd2 : VRs X.K m H (vs ++ dvs) (ds ++ dd) := rd.append hdd
  have hsp : spL X.K g ps.length (vs ++ dvs) H (fun v H' => ∃ d S', g (ds ++ dd) S = .ok d S' ∧ QV X.K m H S' d v H') (fun cls d H' => ∃ C fs S', g (ds ++ dd) S = .exc C fs S' ∧ WL X.K m H C fs S' cls d H') :=
    ⟨hl, m, S, ds ++ dd, x, rd2, hp.1, fun d S' q v H' z => ⟨d, S', q, z⟩, fun C fs S' q cls d H' z => ⟨C, fs, S', q, z⟩⟩
  refine wpAny_call (codeAny_mono (Fn.run X.A X.stack s H ⟨us, []⟩ (us ++ ds0) (vs ++ dvs) _ _ hr I.env0 (hb s us I.kIn hl2) r2 hsp) fun r s' hq => ?_)
  cases r with
  | error e =>
    cases q : g (ds ++ dd) S with
    | bad => rw [q] at hp; exact absurd rfl hp.1
    | ok d S' =>
      obtain ⟨_, _, _, _, _, _, _, _, _, _, _, _, C, fs, S', q', _⟩ := hq
      rw [q] at q'; cases q'
    | exc C fs S' =>
      refine hp.2 C fs S' q e s' (XE.of_call I (fun cls d H' w => ?_) hq)
      obtain ⟨C', fs', S'', q', w⟩ := w
      rw [q] at q'; cases q'
      exact ⟨rfl, w⟩
  | ok fl =>
    cases fl with
    | ret u =>
      obtain ⟨v, H', I', rv, d, S', q, m', e, x', w⟩ := I.after hq
      exact ⟨d, S', q, v, H', m', I', rv, e, x', w⟩
    | next => exact False.elim hq
    | brk => exact False.elim hq
    | cont => exact False.elim hq
/-- what a call's values by default are -/
structure Dfl (K : PySem.W.Frag) (dvs : List V) (ds0 : List Value) (dd : List D) : Prop where
  vals : Vals dvs ds0
  rel : ∀ m H, VRs K m H dvs dd
theorem dfl_nil {K : PySem.W.Frag} : Dfl K [] [] [] := ⟨.nil, fun _ _ => .nil⟩
def lCall (n : Nat) (g : F) (dd : List D) (t : LA) : LE := fun ρ S => (t ρ S).bind fun ds S1 => if ds.length + dd.length = n then g (ds ++ dd) S1 else .bad
theorem pel_call {ds0 : List Value} {dvs : List V} {dd : List D} (Fn : FnL X.prog X.w X.K X.mg X.base k f fd ps g) (hr : Room k X.A) (hg : Gl X x) (hm : X.mg x = some (.ref f)) (hk : PySem.W.keepIn X.K (.ref f) = true) (hb : Binds X.K fd ps ds0) (hd : Dfl X.K dvs ds0 dd)
    (ha : PAL X (e :: es) t) (hdb : (x == ("__debug__" : Str)) = false := by decide) (he : starEach (e :: es) X.env = (false, eval e X.env) :: starEach es X.env := by rfl) (hpl : (backTo pos (starEach es X.env)).any (·.1) = false := by rfl) :
    PEL X (.Call (.Name x p) (e :: es) [] pos) (lCall ps.length g dd t) := by
  refine ⟨fun pins s σ H m ρ S I x r hp => ?_⟩
  refine wpAny_Call_Name_kw (ld_glob I hg hm ?_ hdb)
  refine PySem.W.callWith_K (h₀ := X.base) I.ok.mod.kin hk (run_seqA ha I x r hp fun ds S1 q1 vs us s1 H1 m1 I1 rv e1 x1 w1 r1 hp1 => ⟨I1.kIn, ?_⟩) he hpl
  have hl := hope_if hp1
  rw [if_pos hl] at hp1
  have e0 : lCall ps.length g dd t ρ S = g (ds ++ dd) S1 := by unfold lCall; rw [q1, bind_ok, if_pos hl]
  rw [e0]
  exact thn (run_fnL Fn hr hb hd.vals (hd.rel _ _) I1 x1 rv w1 (by rw [List.length_append, w1.length, (hd.rel m1 H1).length]; exact hl) hp1) fun _ _ z => z.left e1
theorem pel_call0 {ds0 : List Value} {dvs : List V} {dd : List D} (Fn : FnL X.prog X.w X.K X.mg X.base k f fd ps g) (hr : Room k X.A) (hg : Gl X x) (hm : X.mg x = some (.ref f)) (hk : PySem.W.keepIn X.K (.ref f) = true) (hb : Binds X.K fd ps ds0) (hd : Dfl X.K dvs ds0 dd)
    (hdb : (x == ("__debug__" : Str)) = false := by decide) : PEL X (.Call (.Name x p) [] [] pos) (lCall ps.length g dd aNil) := by
  refine ⟨fun pins s σ H m ρ S I x r hp => ?_⟩
  refine wpAny_Call_Name_kw (ld_glob I hg hm ?_ hdb)
  have hp1 : Hope X σ m H (if ([] : List D).length + dd.length = ps.length then g ([] ++ dd) S else .bad) := hp
  have hl := hope_if hp1
  rw [if_pos hl] at hp1
  have e0 : lCall ps.length g dd aNil ρ S = g ([] ++ dd) S := by show (if ([] : List D).length + dd.length = ps.length then g ([] ++ dd) S else .bad) = _; rw [if_pos hl]
  rw [e0]
  exact PySem.W.callWith_K0 I.kIn hk (run_fnL (us := []) Fn hr hb hd.vals (hd.rel _ _) I x .nil .nil (by rw [List.nil_append, (hd.rel m H).length]; simpa using hl) hp1)

/-- o.m(..): C the object's class -/
def recv (C : Addr) (mn : Str) (S : Sto) (d : D) : Bool := match vw S d with
  | .obj C' fs => decide (C' = C) && (fs.lookup mn).isNone
  | _ => false
def lMeth (C : Addr) (mn : Str) (n : Nat) (g : F) (dd : List D) (lo : LE) (t : LA) : LE := fun ρ S => (lo ρ S).bind fun d S0 => if recv C mn S0 d = true then (t ρ S0).bind fun ds S1 => if (ds.length + dd.length) + 1 = n then g (d :: (ds ++ dd)) S1 else .bad else .bad
theorem recv_at {K : PySem.W.Frag} {m : List Addr} {H : Hp} {S : Sto} {v : V} {d : D} (x : SR K m H S) (r : VR K m H v d) (h : recv C mn S d = true) : ∃ a dx fs, v = .ref a ∧ H a = some (.ins C dx fs) ∧ fs.lookup mn = none := by
  unfold recv at h
  split at h
  · rename_i C' gs q
    rw [Bool.and_eq_true] at h
    have h1 := of_decide_eq_true h.1
    subst h1
    obtain ⟨a, dx, fs, rfl, h2, r2⟩ := vw_obj x r q
    exact ⟨a, dx, fs, rfl, h2, r2.lookN (Option.isNone_iff_eq_none.mp h.2)⟩
  · cases h
theorem pel_meth {pl : Sem Bool} {ds0 : List Value} {dvs : List V} {dd : List D} (c : Cls X.K C) (hm : Meth X.K C mn f) (Fn : FnL X.prog X.w X.K X.mg X.base k f fd ps g) (hr : Room k X.A) (hb : Binds X.K fd ps ds0) (hd : Dfl X.K dvs ds0 dd) (he : PEL X o lo) (ha : PAL X (e :: es) t)
    (hst : starEach (e :: es) X.env = (false, eval e X.env) :: starEach es X.env := by rfl) (hpl : (backTo pos (starEach es X.env)).any (·.1) = false := by rfl)
    (ht : eval (.Call (.Attribute o mn apos) (e :: es) [] pos) X.env = (do
      let ov ← eval o X.env
      standAt apos.atName
      let (f, first) ← holding [ov] (getMethod ov mn pl)
      callWith pos f first (backTo pos (starEach (e :: es) X.env)) (backToKw pos (keywordEach [] X.env))) := by rfl) :
    PEL X (.Call (.Attribute o mn apos) (e :: es) [] pos) (lMeth C mn ps.length g dd lo t) := by
  refine ⟨fun pins s σ H m ρ S I x r hp => ?_⟩
  refine PySem.W.methodCall_KW (pl := pl) (run_seq he I x r hp fun d S0 q0 v u s0 H0 m0 I0 rv0 e0 x0 w0 r0 hp0 => ?_) ht
  have hc := hope_if hp0
  rw [if_pos hc] at hp0
  obtain ⟨a, dx, fs, rfl, ea, hl⟩ := recv_at x0 w0 hc
  obtain rfl : u = Value.ref a := rv0
  refine getmeth_ok I0 ea c hm hl ?_
  refine PySem.W.callWith_K (first := [.ref a]) (h₀ := X.base) I.ok.mod.kin hm.kp (run_seqA ha I0 x0 r0 hp0 fun ds S1 q1 vs us s1 H1 m1 I1 rv1 e1 x1 w1 r1 hp1 => ⟨I1.kIn, ?_⟩) hst hpl
  have hn := hope_if hp1
  rw [if_pos hn] at hp1
  have ez : lMeth C mn ps.length g dd lo t ρ S = g (d :: (ds ++ dd)) S1 := by unfold lMeth; rw [q0, bind_ok, if_pos hc, q1, bind_ok, if_pos hn]
  rw [ez]
  exact thn (run_fnL (us := .ref a :: us) (vs := .ref a :: vs) (ds := d :: ds) Fn hr hb hd.vals (hd.rel _ _) I1 x1 (.cons rfl rv1) (.cons (w0.ext e1 x0.muts) w1)
    (by rw [List.cons_append, List.length_cons, List.length_append, w1.length, (hd.rel m1 H1).length]; exact hn) hp1) fun _ _ z => z.left (e0.trans e1)
theorem pel_meth0 {pl : Sem Bool} {ds0 : List Value} {dvs : List V} {dd : List D} (c : Cls X.K C) (hm : Meth X.K C mn f) (Fn : FnL X.prog X.w X.K X.mg X.base k f fd ps g) (hr : Room k X.A) (hb : Binds X.K fd ps ds0) (hd : Dfl X.K dvs ds0 dd) (he : PEL X o lo)
    (ht : eval (.Call (.Attribute o mn apos) [] [] pos) X.env = (do
      let ov ← eval o X.env
      standAt apos.atName
      let (f, first) ← holding [ov] (getMethod ov mn pl)
      callWith pos f first (backTo pos (starEach [] X.env)) (backToKw pos (keywordEach [] X.env))) := by rfl) :
    PEL X (.Call (.Attribute o mn apos) [] [] pos) (lMeth C mn ps.length g dd lo aNil) := by
  refine ⟨fun pins s σ H m ρ S I x r hp => ?_⟩
  refine PySem.W.methodCall_KW (pl := pl) (run_seq he I x r hp fun d S0 q0 v u s0 H0 m0 I0 rv0 e0 x0 w0 r0 hp0 => ?_) ht
  have hc := hope_if hp0
  rw [if_pos hc] at hp0
  obtain ⟨a, dx, fs, rfl, ea, hl⟩ := recv_at x0 w0 hc
  obtain rfl : u = Value.ref a := rv0
  refine getmeth_ok I0 ea c hm hl ?_
  have hp1 : Hope X σ m0 H0 (if (([] : List D).length + dd.length) + 1 = ps.length then g (d :: ([] ++ dd)) S0 else .bad) := hp0
  have hn := hope_if hp1
  rw [if_pos hn] at hp1
  have ez : lMeth C mn ps.length g dd lo aNil ρ S = g (d :: ([] ++ dd)) S0 := by
    unfold lMeth; rw [q0, bind_ok, if_pos hc]
    show (if (([] : List D).length + dd.length) + 1 = ps.length then g (d :: ([] ++ dd)) S0 else .bad) = _
    rw [if_pos hn]
  rw [ez]
  exact PySem.W.callWith_K0 (first := [.ref a]) I0.kIn hm.kp (thn (run_fnL (us := [.ref a]) (vs := [.ref a]) (ds := [d]) Fn hr hb hd.vals (hd.rel _ _) I0 x0 (.cons rfl .nil) (.cons w0 .nil)
    (by rw [List.length_append, (hd.rel m0 H0).length]; simp at hn ⊢; omega) hp1) fun _ _ z => z.left e0)
end

/-! ### what nobody can reach any more is let go -/
mutual
def below (n : Nat) : D → Bool
  | .ref i => decide (i < n)
  | .tup xs => belows n xs
  | .lst xs => belows n xs
  | .dct kvs => belowd n kvs
  | .obj _ fs => belowf n fs
  | _ => true
def belows (n : Nat) : List D → Bool
  | [] => true
  | x :: xs => below n x && belows n xs
def belowd (n : Nat) : List (D × D) → Bool
  | [] => true
  | (_, x) :: xs => below n x && belowd n xs
def belowf (n : Nat) : List (Str × D) → Bool
  | [] => true
  | (_, x) :: xs => below n x && belowf n xs
end
def belowo (n : Nat) : O → Bool
  | .lst xs => belows n xs
  | .dct kvs => belowd n kvs
  | .ins _ fs => belowf n fs
section
variable {K : PySem.W.Frag} {m : List Addr} {H : Hp}
mutual
theorem VR.bel {v : V} {d : D} : VR K m H v d → below m.length d = true
  | .non => rfl
  | .bl _ => rfl
  | .int _ => rfl
  | .str _ => rfl
  | .tup _ r => r.bel
  | .lst _ _ r => r.bel
  | .lstK _ _ _ _ _ _ r => r.bel
  | .dct _ _ r => r.bel
  | .dctT _ _ r => r.bel
  | .obj _ _ r => r.bel
  | .ref h => by
    simp only [MP.below]
    exact decide_eq_true (List.getElem?_eq_some_iff.mp h).1
theorem VRs.bel {v : List V} {d : List D} : VRs K m H v d → belows m.length d = true
  | .nil => rfl
  | .cons h r => by simp only [MP.belows, h.bel, r.bel, Bool.and_self]
theorem VFs.bel {v : List (Str × V)} {d : List (Str × D)} : VFs K m H v d → belowf m.length d = true
  | .nil => rfl
  | .cons h r => by simp only [MP.belowf, h.bel, r.bel, Bool.and_self]
theorem VDk.bel {v : List (Key × V)} {d : List (D × D)} : VDk K m H v d → belowd m.length d = true
  | .nil => rfl
  | .cons h r => by simp only [MP.belowd, h.bel, r.bel, Bool.and_self]
theorem VDt.bel {v : List (List Key × V)} {d : List (D × D)} : VDt K m H v d → belowd m.length d = true
  | .nil => rfl
  | .cons h r => by simp only [MP.belowd, h.bel, r.bel, Bool.and_self]
end
variable {l : List Addr}
theorem nin_left {a : Addr} (h : a ∉ m ++ l) : a ∉ m := fun z => h (List.mem_append_left _ z)
mutual
theorem VR.down {v : V} {d : D} : VR K (m ++ l) H v d → MP.below m.length d = true → VR K m H v d
  | .non, _ => .non
  | .bl b, _ => .bl b
  | .int i, _ => .int i
  | .str s, _ => .str s
  | .tup h r, q => .tup h (r.down (by simpa only [MP.below] using q))
  | .lst n h r, q => .lst (nin_left n) h (r.down (by simpa only [MP.below] using q))
  | .lstK hk h1 h2 h3 h4 h5 r, q => .lstK hk h1 h2 h3 h4 h5 (r.down (by simpa only [MP.below] using q))
  | .dct n h r, q => .dct (nin_left n) h (r.down (by simpa only [MP.below] using q))
  | .dctT n h r, q => .dctT (nin_left n) h (r.down (by simpa only [MP.below] using q))
  | .obj n h r, q => .obj (nin_left n) h (r.down (by simpa only [MP.below] using q))
  | .ref h, q => .ref (by
    simp only [MP.below] at q
    rw [List.getElem?_append_left (of_decide_eq_true q)] at h
    exact h)
theorem VRs.down {v : List V} {d : List D} : VRs K (m ++ l) H v d → MP.belows m.length d = true → VRs K m H v d
  | .nil, _ => .nil
  | .cons h r, q => by
    simp only [MP.belows, Bool.and_eq_true] at q
    exact .cons (h.down q.1) (r.down q.2)
theorem VFs.down {v : List (Str × V)} {d : List (Str × D)} : VFs K (m ++ l) H v d → MP.belowf m.length d = true → VFs K m H v d
  | .nil, _ => .nil
  | .cons h r, q => by
    simp only [MP.belowf, Bool.and_eq_true] at q
    exact .cons (h.down q.1) (r.down q.2)
theorem VDk.down {v : List (Key × V)} {d : List (D × D)} : VDk K (m ++ l) H v d → MP.belowd m.length d = true → VDk K m H v d
  | .nil, _ => .nil
  | .cons h r, q => by
    simp only [MP.belowd, Bool.and_eq_true] at q
    exact .cons (h.down q.1) (r.down q.2)
theorem VDt.down {v : List (List Key × V)} {d : List (D × D)} : VDt K (m ++ l) H v d → MP.belowd m.length d = true → VDt K m H v d
  | .nil, _ => .nil
  | .cons h r, q => by
    simp only [MP.belowd, Bool.and_eq_true] at q
    exact .cons (h.down q.1) (r.down q.2)
end
/-- a place of the store from n on, as what stands there -/
def fz0 (S : Sto) (n : Nat) (d : D) : D := match d with
  | .ref i => if i < n then .ref i else vw S (.ref i)
  | d => d
def fz (S : Sto) (n : Nat) (d : D) : D := match fz0 S n d with
  | .obj C fs => .obj C (fs.map fun q => (q.1, fz0 S n q.2))
  | d => d
theorem nodup_get {xs : List Addr} (h : xs.Nodup) {i j : Nat} {a : Addr} (h1 : xs[i]? = some a) (h2 : xs[j]? = some a) : i = j := by
  obtain ⟨p1, e1⟩ := List.getElem?_eq_some_iff.mp h1
  obtain ⟨p2, e2⟩ := List.getElem?_eq_some_iff.mp h2
  exact (List.getElem_inj h).mp (e1.trans e2.symm)
theorem VR.fz0 {S : Sto} {v : V} {d : D} (x : SR K (m ++ l) H S) (r : VR K (m ++ l) H v d) : ∃ v', v' = v ∧ (VR K (m ++ l) H v (MP.fz0 S m.length d) ∨ (∃ a, v = .ref a ∧ a ∉ m ∧ ∃ ob, OR K (m ++ l) H a ob ∧ MP.fz0 S m.length d = (match ob with
  | .lst xs => .lst xs
  | .dct kvs => .dct kvs
  | .ins C fs => .obj C fs))) := by
  refine ⟨v, rfl, ?_⟩
  cases r with
  | @ref i a h =>
    unfold MP.fz0
    by_cases hi : i < m.length
    · dsimp only
      rw [if_pos hi]
      exact .inl (.ref h)
    · dsimp only
      rw [if_neg hi]
      cases q : S[i]? with
      | none =>
        have := (List.getElem?_eq_some_iff.mp h).1
        rw [x.len] at this
        rw [List.getElem?_eq_none_iff] at q
        omega
      | some ob =>
        refine .inr ⟨a, rfl, fun z => ?_, ob, x.at_ i a ob h q, by dsimp only [vw]; rw [q]; cases ob <;> rfl⟩
        obtain ⟨j, hj⟩ := List.mem_iff_getElem?.mp z
        have hj' := (List.getElem?_eq_some_iff.mp hj).1
        have h2 : (m ++ l)[j]? = some a := by rw [List.getElem?_append_left hj']; exact hj
        have := nodup_get x.nd h2 h
        omega
  | non => exact .inl .non
  | bl b => exact .inl (.bl b)
  | int b => exact .inl (.int b)
  | str b => exact .inl (.str b)
  | tup h r => exact .inl (.tup h r)
  | lst n h r => exact .inl (.lst n h r)
  | lstK hk h1 h2 h3 h4 h5 r => exact .inl (.lstK hk h1 h2 h3 h4 h5 r)
  | dct n h r => exact .inl (.dct n h r)
  | dctT n h r => exact .inl (.dctT n h r)
  | obj n h r => exact .inl (.obj n h r)
end
end MP

namespace MP
open PySem PySem.Spec PyProof.Rows L2

section
variable {K : PySem.W.Frag} {m l : List Addr} {H H' : Hp} {S S' : Sto}
theorem OR.bel {a : Addr} {o : O} (h : OR K m H a o) : belowo m.length o = true := by
  cases h with
  | lst _ r => exact r.bel
  | dct _ r => exact r.bel
  | dctT _ r => exact r.bel
  | ins _ r => exact r.bel
theorem OR.down {a : Addr} {o : O} (h : OR K (m ++ l) H a o) (b : belowo m.length o = true) : OR K m H a o := by
  cases h with
  | lst h r => exact .lst h (r.down b)
  | dct h r => exact .dct h (r.down b)
  | dctT h r => exact .dctT h (r.down b)
  | ins h r => exact .ins h (r.down b)
def snap : O → D
  | .lst xs => .lst xs
  | .dct kvs => .dct kvs
  | .ins C fs => .obj C fs
theorem VR.fz0_down {v : V} {d : D} (x : SR K (m ++ l) H S) (r : VR K (m ++ l) H v d) (b : MP.below m.length (MP.fz0 S m.length d) = true) : VR K m H v (MP.fz0 S m.length d) := by
  obtain ⟨_, rfl, q⟩ := VR.fz0 x r
  rcases q with q | ⟨a, rfl, na, ob, q, e⟩
  · exact q.down b
  · rw [e] at b ⊢
    cases q with
    | lst h r => exact .lst na (.inl h) (r.down (by simpa only [MP.below] using b))
    | dct h r => exact .dct na (.inl h) (r.down (by simpa only [MP.below] using b))
    | dctT h r => exact .dctT na (.inl h) (r.down (by simpa only [MP.below] using b))
    | ins h r => exact .obj na h (r.down (by simpa only [MP.below] using b))
theorem VFs.fz0_down (x : SR K (m ++ l) H S) : ∀ {vs : List (Str × V)} {ds : List (Str × D)}, VFs K (m ++ l) H vs ds → belowf m.length (ds.map fun q => (q.1, MP.fz0 S m.length q.2)) = true → VFs K m H vs (ds.map fun q => (q.1, MP.fz0 S m.length q.2))
  | _, _, .nil, _ => .nil
  | _, _, .cons h r, q => by
    simp only [List.map_cons, belowf, Bool.and_eq_true] at q
    exact .cons (h.fz0_down x q.1) (VFs.fz0_down x r q.2)
theorem VR.fz_down {v : V} {d : D} (x : SR K (m ++ l) H S) (r : VR K (m ++ l) H v d) (b : MP.below m.length (fz S m.length d) = true) : VR K m H v (fz S m.length d) := by
  unfold fz at b ⊢
  split at b
  · rename_i C fs e
    obtain ⟨_, rfl, q⟩ := VR.fz0 x r
    simp only [MP.below] at b
    rcases q with q | ⟨a, rfl, na, ob, q, e2⟩
    · rw [e] at q
      cases q with
      | obj n h r => exact .obj (nin_left n) h (VFs.fz0_down x r b)
    · rw [e2] at e
      cases q with
      | ins h r => cases e; exact .obj na h (VFs.fz0_down x r b)
      | lst _ _ => cases e
      | dct _ _ => cases e
      | dctT _ _ => cases e
  · exact r.fz0_down x b
/-- a weaker result: less is told, or what nobody reaches any more is let go -/
inductive RLe (S : Sto) : R D → R D → Prop where
  | bad (r : R D) : RLe S .bad r
  | refl (r : R D) : RLe S r r
  | gc (d d' : D) (S' : Sto) (h : S'.take S.length = S) (e : d' = fz S' S.length d) (b : below S.length d' = true) : RLe S (.ok d' S) (.ok d S')
  | gcx (C : Addr) (fs : List (Str × D)) (S' : Sto) (h : S'.take S.length = S) (b : belowf S.length fs = true) : RLe S (.exc C fs S) (.exc C fs S')
theorem sr_gc {m' : List Addr} (x : SR K m H S) (e : Ext m H m' H') (x' : SR K m' H' S') (h : S'.take S.length = S) : SR K m H' S ∧ Ext m H m H' := by
  obtain ⟨l, el⟩ := e.pre
  subst el
  refine ⟨⟨x.nd, x.len, fun i a o h1 h2 => ?_⟩, ⟨[], by simp⟩, fun a h => .inl h, e.keep⟩
  have hi := (List.getElem?_eq_some_iff.mp h1).1
  have hs := (List.getElem?_eq_some_iff.mp h2).1
  refine (x'.at_ i a o (by rw [List.getElem?_append_left hi]; exact h1) ?_).down (x.at_ i a o h1 h2).bel
  rw [← h, List.getElem?_take] at h2
  rw [if_pos hs] at h2
  exact h2
theorem qv_gc {d : D} {v : V} (x : SR K m H S) (q : QV K m H S' d v H') (h : S'.take S.length = S) (b : below S.length (fz S' S.length d) = true) : QV K m H S (fz S' S.length d) v H' := by
  obtain ⟨m', e, x', w⟩ := q
  obtain ⟨y1, y2⟩ := sr_gc x e x' h
  obtain ⟨l, el⟩ := e.pre
  subst el
  rw [← x.len] at b ⊢
  exact ⟨m, y2, y1, w.fz_down x' b⟩
theorem wl_gc {C : Addr} {fs : List (Str × D)} {cls : Value} {dd : Option Addr} (x : SR K m H S) (q : WL K m H C fs S' cls dd H') (h : S'.take S.length = S) (b : belowf S.length fs = true) : WL K m H C fs S cls dd H' := by
  obtain ⟨h1, a, vs, m', h2, h3, e, x', w⟩ := q
  obtain ⟨y1, y2⟩ := sr_gc x e x' h
  obtain ⟨l, el⟩ := e.pre
  subst el
  rw [← x.len] at b
  exact ⟨h1, a, vs, m, h2, h3, y2, y1, w.down b⟩
end
theorem FnL.le {P : Program} {w : World} {K : PySem.W.Frag} {mg : Str → Option Value} {base : Heap} {k : Nat} {f : Addr} {fd : FuncData} {ps : List Str} {g g' : F} (h : FnL P w K mg base k f fd ps g) (hle : ∀ ds S, ds.length = ps.length → RLe S (g' ds S) (g ds S)) : FnL P w K mg base k f fd ps g' := by
  refine FnOk.imp h fun vs H Q E ⟨hl, m, S, ds, x, r, nb, q1, q2⟩ => ⟨hl, m, S, ds, x, r, ?_⟩
  have z := hle ds S (by rw [← r.length]; exact hl)
  generalize hA : g' ds S = A at z nb q1 q2
  generalize hB : g ds S = B at z
  cases z with
  | bad r => exact absurd rfl nb
  | refl r => exact ⟨nb, q1, q2⟩
  | gc d d' S' h e b =>
    subst e
    refine ⟨fun z => (nomatch z), fun d1 S1 e v H' qv => ?_, fun C fs S1 e => (nomatch e)⟩
    cases e
    exact q1 _ _ rfl v H' (qv_gc x qv h b)
  | gcx C fs S' h b =>
    refine ⟨fun z => (nomatch z), fun d1 S1 e => (nomatch e), fun C1 fs1 S1 e cls dd H' wl => ?_⟩
    cases e
    exact q2 _ _ _ rfl cls dd H' (wl_gc x wl h b)

/-! ### a new object -/
section
variable {X : Cx} {e : Expr} {pos p : Pos} {es : List Expr} {t : LA} {x : Str} {k : Nat} {f C : Addr} {fd : FuncData} {ps : List Str} {g : F}
/-- what comes of C(..) by its __init__ -/
def mkF (C : Addr) (g : F) : F := fun ds S => (g (.ref S.length :: ds) (S ++ [.ins C []])).bind fun d S1 => match d with
  | .non => .ok (.ref S.length) S1
  | _ => .bad
theorem run_makeL {pins : List (Addr × Obj)} {σ : L2.St} {H : Hp} {s : Shared} {us ds0 : List Value} {vs dvs : List V} {m : List Addr} {S : Sto} {ds dd : List D} {gn : F} (M : Mk X.K C f) (Fn : FnL X.prog X.w X.K X.mg X.base k f fd ps g) (hr : Room (k + 1) X.A) (hb : Binds X.K fd ps ds0) (hd : Vals dvs ds0) (hdd : VRs X.K m H dvs dd)
    (I : Inv X pins σ H s) (x : SR X.K m H S) (r : Vals vs us) (rd : VRs X.K m H vs ds) (hl : (vs ++ dvs).length + 1 = ps.length) (hg : RLe S (gn (ds ++ dd) S) (mkF C g (ds ++ dd) S)) (hp : Hope X σ m H (gn (ds ++ dd) S)) :
    wpAny (model X.prog X.w) X.A (call (.ref C) us) (VPr X pins σ m H (gn (ds ++ dd) S)) X.xe s := by
  -- the instance stands at pa, its dict at pd
  obtain ⟨pd, hpd⟩ : ∃ a, a = s.heap.objs.size := ⟨_, rfl⟩
  obtain ⟨pa, hpa⟩ : ∃ a, a = s.heap.objs.size + 1 := ⟨_, rfl⟩
  have n1 : H pa = none := hpa ▸ I.hok.fresh (Nat.le_succ _)
  have n2 : H pd = none := hpd ▸ I.hok.fresh (Nat.le_refl _)
  have ne : pa ≠ pd := by omega
  have I2 := Inv.made (C := C) I
  rw [← hpa, ← hpd] at I2
  have r2 : Vals (V.ref pa :: (vs ++ dvs)) (Value.ref pa :: (us ++ ds0)) := .cons rfl (r.append hd)
  have n1' : (upd H pd (.own pa)) pa = none := by rw [upd_ne ne]; exact n1
  have x1 : SR X.K m (upd H pd (.own pa)) S := x.fresh n2
  have E1 : Ext m H m (upd H pd (.own pa)) := Ext.fresh n2
  obtain ⟨E2, x2⟩ := x1.snoc (o := .ins C pd []) (ob := .ins C []) n1' fun m' H' _ q => .ins q .nil
  have E3 := E1.trans E2
  have rd2 : VRs X.K (m ++ [pa]) (upd (upd H pd (.own pa)) pa (.ins C pd [])) (V.ref pa :: (vs ++ dvs)) (D.ref S.length :: (ds ++ dd)) := .cons (.ref (by rw [← x.len]; simp)) ((rd.append hdd).ext E3 x.muts)
  have nb : mkF C g (ds ++ dd) S ≠ .bad := fun z => by
    rw [z] at hg
    generalize gn (ds ++ dd) S = A at hg hp
    cases hg with
    | bad => exact hp.1 rfl
    | refl => exact hp.1 rfl
  have hsp : spL X.K g ps.length (V.ref pa :: (vs ++ dvs)) (upd (upd H pd (.own pa)) pa (.ins C pd [])) (fun v H' => ∃ d S', g (.ref S.length :: (ds ++ dd)) (S ++ [.ins C []]) = .ok d S' ∧ QV X.K (m ++ [pa]) (upd (upd H pd (.own pa)) pa (.ins C pd [])) S' d v H')
      (fun cls d H' => ∃ C' fs S', g (.ref S.length :: (ds ++ dd)) (S ++ [.ins C []]) = .exc C' fs S' ∧ WL X.K (m ++ [pa]) (upd (upd H pd (.own pa)) pa (.ins C pd [])) C' fs S' cls d H') :=
    ⟨by rw [List.length_cons]; exact hl, _, _, _, x2, rd2, fun z => nb (by unfold mkF; rw [z]; rfl), fun d S' q v H' z => ⟨d, S', q, z⟩, fun C' fs S' q cls d H' z => ⟨C', fs, S', q, z⟩⟩
  have hl2 : (Value.ref pa :: us ++ ds0).length = ps.length := by rw [List.cons_append, ← r2.length, List.length_cons]; exact hl
  refine wpAny_call (make_map (f := f) I.kIn M.makes M.init (beq_iff_eq.mp M.fn) ?_)
  rw [← hpa, ← hpd]
  refine codeAny_mono (Fn.run _ X.stack _ _ ⟨Value.ref pa :: us, []⟩ (Value.ref pa :: (us ++ ds0)) _ _ _ (hr.make C us []) (I2.env0.make C us []) (hb _ (Value.ref pa :: us) I2.kIn hl2) r2 hsp) fun r s' hq => ?_
  cases r with
  | error e =>
    obtain ⟨C', fs, S', q, w0⟩ : ∃ C' fs S', g (.ref S.length :: (ds ++ dd)) (S ++ [.ins C []]) = .exc C' fs S' ∧ XE X (fun cls d σ' H' => σ' = σ ∧ WL X.K m H C' fs S' cls d H') e s' := by
      have hx := XE.of_call (W := fun cls d σ' H' => σ' = σ ∧ ∃ C' fs S', g (.ref S.length :: (ds ++ dd)) (S ++ [.ins C []]) = .exc C' fs S' ∧ WL X.K m H C' fs S' cls d H') I2 (fun cls d H' w => by
        obtain ⟨C', fs, S', q, w⟩ := w
        exact ⟨rfl, C', fs, S', q, w.ext E3⟩) hq
      obtain ⟨_, _, _, _, _, _, _, _, _, _, _, _, _, _, _, _, _, C', fs, S', q, _⟩ := id hx
      refine ⟨C', fs, S', q, XE.imp hx fun cls d σ' H' w => ?_⟩
      obtain ⟨w1, C2, fs2, S2, q2, w2⟩ := w
      rw [q] at q2
      cases q2
      exact ⟨w1, w2⟩
    have e0 : mkF C g (ds ++ dd) S = .exc C' fs S' := by unfold mkF; rw [q]; rfl
    rw [e0] at hg
    generalize hA : gn (ds ++ dd) S = A at hg hp
    cases hg with
    | bad => exact absurd rfl hp.1
    | refl => exact hp.2 _ _ _ rfl e s' w0
    | gcx _ _ _ h b => exact hp.2 _ _ _ rfl e s' (XE.imp w0 fun cls d σ' H' w => ⟨w.1, wl_gc x w.2 h b⟩)
  | ok fl =>
    cases fl with
    | ret u =>
      obtain ⟨v, H', I3, rv, d, S', q, m', e', x', w'⟩ := I2.after hq
      have hn : d = .non := by
        cases d with
        | non => rfl
        | _ => exact absurd (by unfold mkF; rw [q]; rfl) nb
      subst hn
      cases w'
      obtain rfl : u = Value.none := rv
      have e0 : mkF C g (ds ++ dd) S = .ok (.ref S.length) S' := by unfold mkF; rw [q]; rfl
      have qv : QV X.K m H S' (.ref S.length) (.ref pa) H' := ⟨m', E3.trans e', x', .ref (e'.get (by rw [← x.len]; simp))⟩
      refine ⟨rfl, ?_⟩
      rw [e0] at hg
      generalize hA : gn (ds ++ dd) S = A at hg hp
      cases hg with
      | bad => exact absurd rfl hp.1
      | refl =>
        obtain ⟨m2, z1, z2, z3⟩ := qv
        exact ⟨_, _, rfl, .ref pa, H', m2, I3, rfl, z1, z2, z3⟩
      | gc _ _ _ h e b =>
        subst e
        obtain ⟨m2, z1, z2, z3⟩ := qv_gc x qv h b
        exact ⟨_, _, rfl, .ref pa, H', m2, I3, rfl, z1, z2, z3⟩
    | next => exact False.elim hq
    | brk => exact False.elim hq
    | cont => exact False.elim hq
theorem pel_make {n : Nat} {ds0 : List Value} {dvs : List V} {dd : List D} {gn : F} (M : Mk X.K C f) (Fn : FnL X.prog X.w X.K X.mg X.base k f fd ps g) (hle : ∀ ds S, RLe S (gn ds S) (mkF C g ds S)) (hr : Room (k + 1) X.A) (hg : Gl X x) (hm : X.mg x = some (.ref C)) (hb : Binds X.K fd ps ds0) (hd : Dfl X.K dvs ds0 dd)
    (ha : PAL X (e :: es) t) (hdb : (x == ("__debug__" : Str)) = false := by decide) (he : starEach (e :: es) X.env = (false, eval e X.env) :: starEach es X.env := by rfl) (hpl : (backTo pos (starEach es X.env)).any (·.1) = false := by rfl) (hps : ps.length = n + 1 := by rfl) :
    PEL X (.Call (.Name x p) (e :: es) [] pos) (lCall n gn dd t) := by
  refine ⟨fun pins s σ H m ρ S I x r hp => ?_⟩
  refine wpAny_Call_Name_kw (ld_glob I hg hm ?_ hdb)
  refine PySem.W.callWith_K (h₀ := X.base) I.ok.mod.kin M.kp (run_seqA ha I x r hp fun ds S1 q1 vs us s1 H1 m1 I1 rv e1 x1 w1 r1 hp1 => ⟨I1.kIn, ?_⟩) he hpl
  have hl := hope_if hp1
  rw [if_pos hl] at hp1
  have e0 : lCall n gn dd t ρ S = gn (ds ++ dd) S1 := by unfold lCall; rw [q1, bind_ok, if_pos hl]
  rw [e0]
  exact thn (run_makeL M Fn hr hb hd.vals (hd.rel _ _) I1 x1 rv w1 (by rw [List.length_append, w1.length, (hd.rel m1 H1).length]; omega) (hle _ _) hp1) fun _ _ z => z.left e1
end
end MP

namespace MP
open PySem PySem.Spec PyProof.Rows L2

/-! ### readings of the layer beneath -/
/-- no exception -/
def tL0 (K : PySem.W.Frag) (l : LE) : TE := fun σ H Q => ∃ m ρ S, SR K m H S ∧ ER K m H σ ρ ∧ ∃ d S', l ρ S = .ok d S' ∧ ∀ v H', QV K m H S' d v H' → Q v H'
def tT0 (K : PySem.W.Frag) (l : LT) : TT := fun σ H Q => ∃ m ρ S, SR K m H S ∧ ER K m H σ ρ ∧ ∃ b S', l ρ S = .ok b S' ∧ ∀ H' m', Ext m H m' H' → SR K m' H' S' → Q b H'
theorem PEL.pe {X : Cx} {e : Expr} {l : LE} (h : PEL X e l) : PE X e (tL0 X.K l) := by
  refine ⟨fun pins s σ H Q I ⟨m, ρ, S, x, r, d, S', q, k⟩ => ?_⟩
  have z := h.run pins s σ H m ρ S I x r (by rw [q]; exact Hope.ok)
  rw [q] at z
  refine thn z fun u s' ⟨d', S2, e, v, H', m', I', rv, e', x', w⟩ => ?_
  cases e
  exact ⟨v, H', I', rv, k v H' ⟨m', e', x', w⟩⟩
theorem PTL.pt {X : Cx} {e : Expr} {l : LT} (h : PTL X e l) : PT X e (tT0 X.K l) := by
  refine ⟨fun pins s σ H Q I ⟨m, ρ, S, x, r, d, S', q, k⟩ => ?_⟩
  have z := h.run pins s σ H m ρ S I x r (by rw [q]; exact Hope.ok)
  rw [q] at z
  refine thn z fun u s' ⟨S2, H', m', e, I', e', x'⟩ => ?_
  cases e
  exact ⟨H', I', k H' m' e' x'⟩
theorem PEL.of_pe {X : Cx} {e : Expr} {l : LE} {t : TE} (h : PE X e t) (ht : ∀ σ H m ρ S, SR X.K m H S → ER X.K m H σ ρ → Hope X σ m H (l ρ S) → t σ H (fun v H' => ∃ d S', l ρ S = .ok d S' ∧ QV X.K m H S' d v H')) : PEL X e l :=
  ⟨fun pins s σ H m ρ S I x r hp => thn (h.run pins s σ H _ I (ht σ H m ρ S x r hp)) fun u s' ⟨v, H', I', rv, d, S', q, m', e, x', w⟩ => ⟨d, S', q, v, H', m', I', rv, e, x', w⟩⟩

/-! ### statements -/
inductive Fl where
  | nx (ρ : Ev) | rt (d : D) | bk (ρ : Ev) | ct (ρ : Ev) | ex (C : Addr) (fs : List (Str × D)) (ρ : Ev)
abbrev LS := Ev → Sto → R Fl
/-- behind: slots and heap by the store -/
def SV (K : PySem.W.Frag) (m : List Addr) (H : Hp) (ρ' : Ev) (S' : Sto) (σ' : L2.St) (H' : Hp) : Prop := ∃ m', Ext m H m' H' ∧ SR K m' H' S' ∧ ER K m' H' σ' ρ' ∧ ρ'.length = σ'.length
def WS (K : PySem.W.Frag) (m : List Addr) (H : Hp) (C : Addr) (fs : List (Str × D)) (ρ' : Ev) (S' : Sto) : WX := fun cls d σ' H' =>
  cls = .ref C ∧ ∃ (dd : Addr) (vs : List (Str × V)) (m' : List Addr), d = some dd ∧ H' dd = some (.xd vs) ∧ Ext m H m' H' ∧ SR K m' H' S' ∧ VFs K m' H' vs fs ∧ ER K m' H' σ' ρ' ∧ ρ'.length = σ'.length
/-- the reading: what is wanted at each of the ways out -/
structure HS (X : Cx) (D : Ends) (m : List Addr) (H : Hp) (r : R Fl) : Prop where
  ok : ∃ fl S', r = .ok fl S'
  nx : ∀ ρ' S', r = .ok (.nx ρ') S' → ∀ σ' H', SV X.K m H ρ' S' σ' H' → D.nx σ' H'
  rt : ∀ d S', r = .ok (.rt d) S' → ∀ v H', QV X.K m H S' d v H' → D.rt v H'
  bk : ∀ ρ' S', r = .ok (.bk ρ') S' → ∀ σ' H', SV X.K m H ρ' S' σ' H' → D.bk σ' H'
  ct : ∀ ρ' S', r = .ok (.ct ρ') S' → ∀ σ' H', SV X.K m H ρ' S' σ' H' → D.ct σ' H'
  ex : ∀ C fs ρ' S', r = .ok (.ex C fs ρ') S' → ∀ u s', XE X (WS X.K m H C fs ρ' S') u s' → X.xe u s'
def tSL (X : Cx) (l : LS) : TS := fun D σ H => ∃ m ρ S, SR X.K m H S ∧ ER X.K m H σ ρ ∧ ρ.length = σ.length ∧ HS X D m H (l ρ S)
def PSL (X : Cx) (st : Stmt) (l : LS) : Prop := PS X st (tSL X l)
def PSsL (X : Cx) (st : List Stmt) (l : LS) : Prop := PSs X st (tSL X l)
section
variable {X : Cx} {D : Ends} {m m1 : List Addr} {H H1 : Hp} {r : R Fl} {σ : L2.St} {ρ : Ev} {S S1 : Sto}
theorem SV.left {K : PySem.W.Frag} {ρ' : Ev} {S' : Sto} {σ' : L2.St} {H' : Hp} (e : Ext m H m1 H1) (h : SV K m1 H1 ρ' S' σ' H') : SV K m H ρ' S' σ' H' := by
  obtain ⟨m', e', a, b, c⟩ := h
  exact ⟨m', e.trans e', a, b, c⟩
theorem QV.left {K : PySem.W.Frag} {d : MP.D} {S' : Sto} {v : V} {H' : Hp} (e : Ext m H m1 H1) (h : QV K m1 H1 S' d v H') : QV K m H S' d v H' := by
  obtain ⟨m', e', a, b⟩ := h
  exact ⟨m', e.trans e', a, b⟩
theorem WS.left {K : PySem.W.Frag} {C : Addr} {fs : List (Str × MP.D)} {ρ' : Ev} {S' : Sto} {cls : Value} {d : Option Addr} {σ' : L2.St} {H' : Hp} (e : Ext m H m1 H1) (h : WS K m1 H1 C fs ρ' S' cls d σ' H') : WS K m H C fs ρ' S' cls d σ' H' := by
  obtain ⟨h1, dd, vs, m', h2, h3, h4, h5⟩ := h
  exact ⟨h1, dd, vs, m', h2, h3, e.trans h4, h5⟩
theorem HS.ext (h : HS X D m H r) (e : Ext m H m1 H1) : HS X D m1 H1 r :=
  ⟨h.ok, fun ρ' S' q σ' H' z => h.nx ρ' S' q σ' H' (z.left e), fun d S' q v H' z => h.rt d S' q v H' (z.left e), fun ρ' S' q σ' H' z => h.bk ρ' S' q σ' H' (z.left e), fun ρ' S' q σ' H' z => h.ct ρ' S' q σ' H' (z.left e),
    fun C fs ρ' S' q u s' z => h.ex C fs ρ' S' q u s' (XE.imp z fun _ _ _ _ w => w.left e)⟩
/-- an exception of an expression is one of the statement -/
def liftX {α : Type} (ρ : Ev) (r : R α) (f : α → Sto → R Fl) : R Fl := match r with
  | .ok a S => f a S
  | .exc C fs S => .ok (.ex C fs ρ) S
  | .bad => .bad
theorem HS.hope {α : Type} {r : R α} {f : α → Sto → R Fl} (h : HS X D m H (liftX ρ r f)) (er : ER X.K m H σ ρ) (hl : ρ.length = σ.length) (x : SR X.K m H S) : Hope X σ m H r := by
  cases r with
  | bad => obtain ⟨fl, S', q⟩ := h.ok; cases q
  | ok a S => exact Hope.ok
  | exc C fs S' =>
    refine ⟨fun z => (nomatch z), fun C' fs' S'' q u s' z => ?_⟩
    cases q
    refine h.ex C fs ρ S' rfl u s' (XE.imp z fun cls d σ' H' w => ?_)
    obtain ⟨w0, w1, dd, vs, m', w2, w3, w4, w5, w6⟩ := w
    subst w0
    exact ⟨w1, dd, vs, m', w2, w3, w4, w5, w6, er.ext w4 x.muts, hl⟩
/-- an expression in a statement: what is told of it -/
theorem expr_in {e : Expr} {l : LE} (h : PEL X e l) {pins : List (Addr × Obj)} {s : Shared} (I : Inv X pins σ H s) (x : SR X.K m H S) (er : ER X.K m H σ ρ) (hl : ρ.length = σ.length) {f : MP.D → Sto → R Fl} (hs : HS X D m H (liftX ρ (l ρ S) f)) {Q : Value → Shared → Prop}
    (k : ∀ d S1, l ρ S = .ok d S1 → ∀ v u s1 H1 m1, Inv X pins σ H1 s1 → RelV v u → Ext m H m1 H1 → SR X.K m1 H1 S1 → VR X.K m1 H1 v d → ER X.K m1 H1 σ ρ → HS X D m1 H1 (f d S1) → Q u s1) :
    wpAny (model X.prog X.w) X.A (eval e X.env) Q X.xe s := by
  refine thn (h.run pins s σ H m ρ S I x er (hs.hope er hl x)) fun u s1 ⟨d, S1, q, v, H1, m1, I1, rv, e1, x1, w⟩ => ?_
  rw [q] at hs
  exact k d S1 q v u s1 H1 m1 I1 rv e1 x1 w (er.ext e1 x.muts) (HS.ext hs e1)
theorem test_in {e : Expr} {l : LT} (h : PTL X e l) {pins : List (Addr × Obj)} {s : Shared} (I : Inv X pins σ H s) (x : SR X.K m H S) (er : ER X.K m H σ ρ) (hl : ρ.length = σ.length) {f : Bool → Sto → R Fl} (hs : HS X D m H (liftX ρ (l ρ S) f)) {Q : Bool → Shared → Prop}
    (k : ∀ b S1, l ρ S = .ok b S1 → ∀ s1 H1 m1, Inv X pins σ H1 s1 → Ext m H m1 H1 → SR X.K m1 H1 S1 → ER X.K m1 H1 σ ρ → HS X D m1 H1 (f b S1) → Q b s1) :
    wpAny (model X.prog X.w) X.A (isTrue e X.env (eval e X.env)) Q X.xe s := by
  refine thn (h.run pins s σ H m ρ S I x er (hs.hope er hl x)) fun u s1 ⟨S1, H1, m1, q, I1, e1, x1⟩ => ?_
  rw [q] at hs
  exact k u S1 q s1 H1 m1 I1 e1 x1 (er.ext e1 x.muts) (HS.ext hs e1)
theorem sv_same (x : SR X.K m H S) (er : ER X.K m H σ ρ) (hl : ρ.length = σ.length) : SV X.K m H ρ S σ H := ⟨m, Ext.refl, x, er, hl⟩
end

section
variable {X : Cx} {st : Stmt} {rest : List Stmt} {l l' l1 l2 : LS} {e o i c : Expr} {le lo li : LE} {tc : LT} {pos pos' : Pos} {x : Str}
def lNext : LS := fun ρ S => .ok (.nx ρ) S
def Fl.go (l2 : LS) (fl : Fl) (S1 : Sto) : R Fl := match fl with
  | .nx ρ1 => l2 ρ1 S1
  | fl => .ok fl S1
def lSeq (l1 l2 : LS) : LS := fun ρ S => (l1 ρ S).bind (Fl.go l2)
theorem pss_imp {sts : List Stmt} {t u : TS} (h : PSs X sts t) (k : ∀ D σ H, u D σ H → t D σ H) : PSs X sts u := ⟨fun pins s σ H D I q => h.run pins s σ H D I (k D σ H q)⟩
theorem ps_imp {st : Stmt} {t u : TS} (h : PS X st t) (k : ∀ D σ H, u D σ H → t D σ H) : PS X st u := ⟨fun pins s σ H D I q => h.run pins s σ H D I (k D σ H q)⟩
theorem pssl_nil : PSsL X [] lNext := pss_imp pss_nil fun D σ H ⟨m, ρ, S, x, er, hl, h⟩ => h.nx ρ S rfl σ H (sv_same x er hl)
theorem pssl_one (h : PSL X st l) : PSsL X [st] l := pss_one h
theorem bind_nbad {α β : Type} {r : R α} {f : α → Sto → R β} {b : β} {S' : Sto} (h : r.bind f = .ok b S') : ∃ a S, r = .ok a S ∧ f a S = .ok b S' := by
  cases r with
  | ok a S => exact ⟨a, S, rfl, h⟩
  | exc _ _ _ => cases h
  | bad => cases h
theorem HS.seq {D : Ends} {m : List Addr} {H : Hp} {ρ : Ev} {S : Sto} (h : HS X D m H (lSeq l1 l2 ρ S)) : HS X { D with nx := fun σ' H' => tSL X l2 D σ' H' } m H (l1 ρ S) := by
  obtain ⟨fl, S', q⟩ := h.ok
  obtain ⟨a, S1, q1, q2⟩ := bind_nbad q
  have key : lSeq l1 l2 ρ S = Fl.go l2 a S1 := by unfold lSeq; rw [q1]; rfl
  refine ⟨⟨a, S1, q1⟩, fun ρ' S2 e σ' H' z => ?_, fun d S2 e v H' z => ?_, fun ρ' S2 e σ' H' z => ?_, fun ρ' S2 e σ' H' z => ?_, fun C fs ρ' S2 e u s' z => ?_⟩
  · rw [q1] at e
    cases e
    obtain ⟨m', e', x', er', hl'⟩ := z
    rw [key] at h
    exact ⟨m', ρ', S1, x', er', hl', HS.ext h e'⟩
  · rw [q1] at e
    cases e
    exact h.rt d S1 key v H' z
  · rw [q1] at e
    cases e
    exact h.bk ρ' S1 key σ' H' z
  · rw [q1] at e
    cases e
    exact h.ct ρ' S1 key σ' H' z
  · rw [q1] at e
    cases e
    exact h.ex C fs ρ' S1 key u s' z
theorem pssl_cons (h1 : PSL X st l1) (h2 : PSsL X rest l2) : PSsL X (st :: rest) (lSeq l1 l2) :=
  pss_imp (pss_cons h1 h2) fun D σ H ⟨m, ρ, S, x, er, hl, h⟩ => ⟨m, ρ, S, x, er, hl, h.seq⟩
theorem psl_pass : PSL X (.Pass pos) lNext := ps_imp ps_pass fun D σ H ⟨m, ρ, S, x, er, hl, h⟩ => h.nx ρ S rfl σ H (sv_same x er hl)
def lBrk : LS := fun ρ S => .ok (.bk ρ) S
def lCont : LS := fun ρ S => .ok (.ct ρ) S
theorem psl_break : PSL X (.Break pos) lBrk := ps_imp ps_break fun D σ H ⟨m, ρ, S, x, er, hl, h⟩ => h.bk ρ S rfl σ H (sv_same x er hl)
theorem psl_continue : PSL X (.Continue pos) lCont := ps_imp ps_continue fun D σ H ⟨m, ρ, S, x, er, hl, h⟩ => h.ct ρ S rfl σ H (sv_same x er hl)
/-- an expression whose value is dropped -/
def lExpr (le : LE) : LS := fun ρ S => liftX ρ (le ρ S) fun _ S1 => .ok (.nx ρ) S1
theorem psl_expr (he : PEL X e le) (hs : swapsWith e none pos.line X.env = pure false := by rfl) : PSL X (.Expr e pos) (lExpr le) := by
  refine ⟨fun pins s σ H D I ⟨m, ρ, S, x, er, hl, h⟩ => ?_⟩
  exact wpAny_Expr_any (expr_in he I x er hl h fun d S1 q v u s1 H1 m1 I1 rv e1 x1 w er1 h1 => ⟨σ, H1, I1, h1.nx ρ S1 rfl σ H1 (sv_same x1 er1 hl)⟩) I.quiet hs
def lRet (le : LE) : LS := fun ρ S => liftX ρ (le ρ S) fun d S1 => .ok (.rt d) S1
theorem psl_ret (he : PEL X e le) : PSL X (.Return (some e) pos) (lRet le) := by
  refine ⟨fun pins s σ H D I ⟨m, ρ, S, x, er, hl, h⟩ => ?_⟩
  exact wpAny_Return_some (expr_in he I x er hl h fun d S1 q v u s1 H1 m1 I1 rv e1 x1 w er1 h1 => ⟨v, σ, H1, I1, rv, h1.rt d S1 rfl v H1 (qv_same x1 w)⟩)
def lRetN : LS := fun _ S => .ok (.rt .non) S
theorem psl_retN : PSL X (.Return none pos) lRetN := ps_imp ps_retN fun D σ H ⟨m, ρ, S, x, er, hl, h⟩ => h.rt .non S rfl .non H (qv_same x .non)
def lIfS (tc : LT) (l1 l2 : LS) : LS := fun ρ S => liftX ρ (tc ρ S) fun b S1 => if b = true then l1 ρ S1 else l2 ρ S1
theorem psl_if {a b : List Stmt} (hc : PTL X c tc) (ha : PSsL X a l1) (hb : PSsL X b l2) : PSL X (.If c a b pos) (lIfS tc l1 l2) := by
  refine ⟨fun pins s σ H D I ⟨m, ρ, S, x, er, hl, h⟩ => ?_⟩
  refine wpAny_If (test_in hc I x er hl h fun k S1 q s1 H1 m1 I1 e1 x1 er1 h1 => ?_)
  cases k with
  | true => exact ha.run pins s1 σ H1 D I1 ⟨m1, ρ, S1, x1, er1, hl, h1⟩
  | false => exact hb.run pins s1 σ H1 D I1 ⟨m1, ρ, S1, x1, er1, hl, h1⟩
/-- name = e -/
def lSet (i : Nat) (le : LE) : LS := fun ρ S => liftX ρ (le ρ S) fun d S1 => .ok (.nx (ρ.set i (some d))) S1
theorem psl_set {i : Nat} (hN : X.N.Nodup) (he : PEL X e le) (hi : X.N[i]? = some x := by rfl) (hx : Loc X.env.scope x := by first | exact .inl rfl | exact .inr rfl) (hs : swapsWith e (some (.Name x pos')) pos.line X.env = pure false := by rfl) (hf : X.fn x = true ∨ X.env.scope.names.lookup x = some .local := by first | exact .inl rfl | exact .inr rfl | assumption) :
    PSL X (.Assign [.Name x pos'] e pos) (lSet i le) := by
  refine ⟨fun pins s σ H D I ⟨m, ρ, S, x0, er, hl, h⟩ => ?_⟩
  refine wpAny_Assign_Name (expr_in he I x0 er hl h fun d S1 q v u s1 H1 m1 I1 rv e1 x1 w er1 h1 => ?_) hs
  exact store_ok I1 hN hi hx rv (fun s2 I2 => ⟨_, H1, I2, h1.nx _ S1 rfl _ H1 ⟨m1, Ext.refl, x1, er1.set w, by simp [hl]⟩⟩) hf
end
end MP

namespace MP
open PySem PySem.Spec PyProof.Rows L2

/-! ### while -/
def tTX (X : Cx) (l : LT) : TT := fun σ H Q => ∃ m ρ S, SR X.K m H S ∧ ER X.K m H σ ρ ∧ Hope X σ m H (l ρ S) ∧ ∀ b S', l ρ S = .ok b S' → ∀ H' m', Ext m H m' H' → SR X.K m' H' S' → Q b H'
theorem PTL.ptx {X : Cx} {e : Expr} {l : LT} (h : PTL X e l) : PT X e (tTX X l) := by
  refine ⟨fun pins s σ H Q I ⟨m, ρ, S, x, r, hp, k⟩ => ?_⟩
  exact thn (h.run pins s σ H m ρ S I x r hp) fun u s' ⟨S2, H', m', e, I', e', x'⟩ => ⟨H', I', k u S2 e H' m' e' x'⟩
/-- a loop's turn forgets what was not there ahead of the loop -/
def wk : Ev → Ev → Ev
  | _, [] => []
  | [], _ :: bs => none :: wk [] bs
  | none :: as, _ :: bs => none :: wk as bs
  | some _ :: as, b :: bs => b :: wk as bs
theorem wk_length : ∀ (as bs : Ev), (wk as bs).length = bs.length
  | _, [] => by cases ‹Ev› <;> rfl
  | [], _ :: bs => by simp [wk, wk_length]
  | none :: as, _ :: bs => by simp [wk, wk_length]
  | some _ :: as, b :: bs => by simp [wk, wk_length]
theorem wk_some : ∀ {as bs : Ev} {i : Nat} {d : D}, (wk as bs)[i]? = some (some d) → bs[i]? = some (some d)
  | as, [], i, d, h => by cases as <;> simp [wk] at h
  | [], b :: bs, 0, d, h => by simp [wk] at h
  | [], b :: bs, i + 1, d, h => by
    simp only [wk, List.getElem?_cons_succ] at h ⊢
    exact wk_some h
  | none :: as, b :: bs, 0, d, h => by simp [wk] at h
  | none :: as, b :: bs, i + 1, d, h => by
    simp only [wk, List.getElem?_cons_succ] at h ⊢
    exact wk_some h
  | some _ :: as, b :: bs, 0, d, h => by simpa [wk] using h
  | some _ :: as, b :: bs, i + 1, d, h => by
    simp only [wk, List.getElem?_cons_succ] at h ⊢
    exact wk_some h
theorem SV.wk {K : PySem.W.Frag} {m : List Addr} {H : Hp} {ρ' : Ev} {S' : Sto} {σ' : L2.St} {H' : Hp} (ρ0 : Ev) (h : SV K m H ρ' S' σ' H') : SV K m H (MP.wk ρ0 ρ') S' σ' H' := by
  obtain ⟨m', a, b, c, d⟩ := h
  exact ⟨m', a, b, ⟨fun i x e => c.at_ i x (wk_some e), by rw [wk_length]; exact d⟩, by rw [wk_length]; exact d⟩
def Fl.loop (ρ0 : Ev) (k : LS) (fl : Fl) (S : Sto) : R Fl := match fl with
  | .nx ρ => k (wk ρ0 ρ) S
  | .ct ρ => k (wk ρ0 ρ) S
  | .bk ρ => .ok (.nx (wk ρ0 ρ)) S
  | fl => .ok fl S
def whileG (ρ0 : Ev) (tc : LT) (lb : LS) : Nat → LS
  | 0 => fun _ _ => .bad
  | n + 1 => fun ρ S => liftX ρ (tc ρ S) fun b S1 => if b = true then (lb ρ S1).bind (Fl.loop ρ0 (whileG ρ0 tc lb n)) else .ok (.nx ρ) S1
def lWhile (n : Nat) (tc : LT) (lb : LS) : LS := fun ρ S => whileG ρ tc lb n ρ S
theorem HS.loop {X : Cx} {D : Ends} {m : List Addr} {H : Hp} {l k : LS} {ρ ρ0 : Ev} {S : Sto} (h : HS X D m H ((l ρ S).bind (Fl.loop ρ0 k))) : HS X { D with nx := fun σ' H' => tSL X k D σ' H', ct := fun σ' H' => tSL X k D σ' H', bk := D.nx } m H (l ρ S) := by
  obtain ⟨fl, S', q⟩ := h.ok
  obtain ⟨a, S1, q1, q2⟩ := bind_nbad q
  have key : (l ρ S).bind (Fl.loop ρ0 k) = Fl.loop ρ0 k a S1 := by rw [q1]; rfl
  rw [key] at h
  refine ⟨⟨a, S1, q1⟩, fun ρ' S2 e σ' H' z => ?_, fun d S2 e v H' z => ?_, fun ρ' S2 e σ' H' z => ?_, fun ρ' S2 e σ' H' z => ?_, fun C fs ρ' S2 e u s' z => ?_⟩
  · rw [q1] at e
    cases e
    obtain ⟨m', e', x', er', hl'⟩ := z.wk ρ0
    exact ⟨m', _, S1, x', er', hl', HS.ext h e'⟩
  · rw [q1] at e
    cases e
    exact h.rt d S1 rfl v H' z
  · rw [q1] at e
    cases e
    exact h.nx _ S1 rfl σ' H' (z.wk ρ0)
  · rw [q1] at e
    cases e
    obtain ⟨m', e', x', er', hl'⟩ := z.wk ρ0
    exact ⟨m', _, S1, x', er', hl', HS.ext h e'⟩
  · rw [q1] at e
    cases e
    exact h.ex C fs ρ' S1 rfl u s' z
theorem psl_while {X : Cx} {c : Expr} {body : List Stmt} {tc : LT} {lb : LS} {pos : Pos} (n : Nat) (hp : PassesOwn (model X.prog X.w) X.A X.env X.xe) (hc : PTL X c tc) (hb : PSsL X body lb) : PSL X (.While c body [] pos) (lWhile n tc lb) := by
  refine ps_imp (ps_while hp hc.ptx hb) fun D σ H h => ?_
  obtain ⟨m0, ρ0, S0, x0, er0, hl0, h0⟩ := h
  refine ⟨fun k σ H => tSL X (whileG ρ0 tc lb k) D σ H, ⟨n, m0, ρ0, S0, x0, er0, hl0, h0⟩, ?_⟩
  rintro k σ H ⟨m, ρ, S, x, er, hl, h⟩
  cases k with
  | zero => obtain ⟨fl, S', q⟩ := h.ok; cases q
  | succ k =>
    have h' : HS X D m H (liftX ρ (tc ρ S) fun b S1 => if b = true then (lb ρ S1).bind (Fl.loop ρ0 (whileG ρ0 tc lb k)) else .ok (.nx ρ) S1) := h
    refine ⟨m, ρ, S, x, er, HS.hope h' er hl x, fun b S' q H' m' e x' => ?_⟩
    rw [q] at h'
    have h2 : HS X D m' H' (if b = true then (lb ρ S').bind (Fl.loop ρ0 (whileG ρ0 tc lb k)) else .ok (.nx ρ) S') := HS.ext h' e
    cases b with
    | true =>
      rw [if_pos rfl] at h2 ⊢
      exact ⟨fun σ' H' => tSL X (whileG ρ0 tc lb k) D σ' H', fun σ' H' z => ⟨k, Nat.lt_succ_self _, z⟩, m', ρ, S', x', er.ext e x.muts, hl, h2.loop⟩
    | false =>
      rw [if_neg Bool.false_ne_true] at h2 ⊢
      exact h2.nx ρ S' rfl σ H' (sv_same x' (er.ext e x.muts) hl)

/-! ### what is walked -/
/-- the items, and what must stay of the store meanwhile -/
structure Its' where
  items : List D
  chk : Sto → Prop
abbrev LI := Ev → Sto → R Its'
/-- what a turn hands over: a thing of the layer, or a new tuple of such -/
def YS (K : PySem.W.Frag) (m : List Addr) (H Hx : Hp) (x : V) (H' : Hp) (d : D) : Prop :=
  (H' = Hx ∧ VR K m H x d) ∨ ∃ T ws ds, Hx T = none ∧ H' = upd Hx T (.tup ws) ∧ x = .ref T ∧ d = .tup ds ∧ VRs K m H ws ds
def Ylds (K : PySem.W.Frag) (J : It) (m1 : List Addr) (H1 : Hp) (it : Its') : Prop := ∀ m2 H2 S2 Hx, Ext m1 H1 m2 H2 → SR K m2 H2 S2 → it.chk S2 → (∀ a o, H2 a = some o → Hx a = some o) →
  (∀ (i : Nat) (d : D), it.items[i]? = some d → J.go i Hx ∧ ∀ x H', J.yld i Hx x H' → YS K m2 H2 Hx x H' d) ∧ ∀ i, it.items.length ≤ i → J.stop i Hx
def tIL (X : Cx) (li : LI) : TI := fun σ H Rr => ∃ m ρ S, SR X.K m H S ∧ ER X.K m H σ ρ ∧ Hope X σ m H (li ρ S) ∧ ∀ it S1, li ρ S = .ok it S1 → ∀ J H1 m1, Ext m H m1 H1 → SR X.K m1 H1 S1 → Ylds X.K J m1 H1 it → Rr J H1
def PIL (X : Cx) (tg iter : Expr) (li : LI) : Prop := PI X tg iter (tIL X li)
def iterOf (S : Sto) : D → Option Its'
  | .lst xs => some ⟨xs, fun _ => True⟩
  | .tup xs => some ⟨xs, fun _ => True⟩
  | .str z => some ⟨z.cps.toList.map fun c => .str ⟨#[c]⟩, fun _ => True⟩
  | .ref i => match S[i]? with
    | some (.lst xs) => some ⟨xs, fun S' => S'[i]? = some (.lst xs)⟩
    | _ => none
  | _ => none
def liftI (o : Option Its') (S : Sto) : R Its' := match o with
  | some d => .ok d S
  | none => .bad
def lIter (l : LE) : LI := fun ρ S => (l ρ S).bind fun d S1 => liftI (iterOf S1 d) S1
theorem yl_list {K : PySem.W.Frag} {m1 : List Addr} {H1 : Hp} {a : Addr} {vs : List V} {xs : List D} (mu : ∀ a ∈ m1, Mut (H1 a)) (n : a ∉ m1) (h : Rd H1 a (.lst vs)) (r : VRs K m1 H1 vs xs) : Ylds K (Itl K a) m1 H1 ⟨xs, fun _ => True⟩ := fun m2 H2 S2 Hx e x _ sup => by
  have h2 := e.rd n h
  have h3 : Rd Hx a (.lst vs) := by
    rcases h2 with h2 | ⟨o, h2⟩
    · exact .inl (sup _ _ h2)
    · exact .inr ⟨o, sup _ _ h2⟩
  have r2 := r.ext e mu
  refine ⟨fun i d hi => ?_, fun i hi => ⟨vs, .inl h3, by rw [r.length]; exact hi⟩⟩
  obtain ⟨v, hv, w⟩ := r2.getr hi
  refine ⟨⟨vs, v, .inl h3, hv⟩, fun y H' z => .inl ⟨z.1, ?_⟩⟩
  have := z.2 vs (.inl h3)
  rw [hv] at this
  cases this
  exact w
theorem yl_listK {K : PySem.W.Frag} {m1 : List Addr} {H1 : Hp} {a : Addr} {vs : List V} {xs : List D} (mu : ∀ a ∈ m1, Mut (H1 a)) (h : ∀ H, SqL K H a vs) (r : VRs K m1 H1 vs xs) : Ylds K (Itl K a) m1 H1 ⟨xs, fun _ => True⟩ := fun m2 H2 S2 Hx e x _ sup => by
  have r2 := r.ext e mu
  refine ⟨fun i d hi => ?_, fun i hi => ⟨vs, h _, by rw [r.length]; exact hi⟩⟩
  obtain ⟨v, hv, w⟩ := r2.getr hi
  refine ⟨⟨vs, v, h _, hv⟩, fun y H' z => .inl ⟨z.1, ?_⟩⟩
  have := z.2 vs (h _)
  rw [hv] at this
  cases this
  exact w
theorem yl_ref {K : PySem.W.Frag} {m1 : List Addr} {H1 : Hp} {a : Addr} {xs : List D} {j : Nat} (hj : m1[j]? = some a) : Ylds K (Itl K a) m1 H1 ⟨xs, fun S' => S'[j]? = some (.lst xs)⟩ := fun m2 H2 S2 Hx e x c sup => by
  have z := x.at_ j a _ (e.get hj) c
  cases z with
  | lst h r =>
    rename_i vs
    have h3 : SqL K Hx a vs := SqL.of (sup _ _ h)
    refine ⟨fun i d hi => ?_, fun i hi => ⟨vs, h3, by rw [r.length]; exact hi⟩⟩
    obtain ⟨v, hv, w⟩ := r.getr hi
    refine ⟨⟨vs, v, h3, hv⟩, fun y H' z => .inl ⟨z.1, ?_⟩⟩
    have := z.2 vs h3
    rw [hv] at this
    cases this
    exact w
theorem yl_tup {K : PySem.W.Frag} {m1 : List Addr} {H1 : Hp} {a : Addr} {vs : List V} {xs : List D} (mu : ∀ a ∈ m1, Mut (H1 a)) (h : H1 a = some (.tup vs)) (r : VRs K m1 H1 vs xs) : Ylds K (Itt K a) m1 H1 ⟨xs, fun _ => True⟩ := fun m2 H2 S2 Hx e x _ sup => by
  have h3 : SqT K Hx a vs := SqT.of (sup _ _ (tup_ext e mu h))
  have r2 := r.ext e mu
  refine ⟨fun i d hi => ?_, fun i hi => ⟨vs, h3, by rw [r.length]; exact hi⟩⟩
  obtain ⟨v, hv, w⟩ := r2.getr hi
  refine ⟨⟨vs, v, h3, hv⟩, fun y H' z => .inl ⟨z.1, ?_⟩⟩
  have := z.2 vs h3
  rw [hv] at this
  cases this
  exact w
theorem yl_str {K : PySem.W.Frag} {m1 : List Addr} {H1 : Hp} {z : Str} : Ylds K (L2.Its z) m1 H1 ⟨z.cps.toList.map fun c => .str ⟨#[c]⟩, fun _ => True⟩ := fun m2 H2 S2 Hx e x _ sup => by
  refine ⟨fun i d hi => ?_, fun i hi => by show z.cps.size ≤ i; simpa using hi⟩
  have hl : i < z.cps.size := by
    have := (List.getElem?_eq_some_iff.mp hi).1
    simpa using this
  refine ⟨hl, fun y H' q => .inl ⟨q.1, ?_⟩⟩
  obtain ⟨c, hc, rfl⟩ := q.2
  simp only [List.getElem?_map, Array.getElem?_toList, hc, Option.map_some, Option.some.injEq] at hi
  subst hi
  exact .str _
section
variable {X : Cx} {tg e : Expr} {l : LE} {t : LA} {p pos : Pos} {a b : Expr}
theorem pil_val (he : PEL X e l) : PIL X tg e (lIter l) := by
  refine ⟨fun pins s σ H Rr I ⟨m, ρ, S, x, er, hp, k⟩ => ?_⟩
  refine run_seq he I x er hp fun d S1 q v u s1 H1 m1 I1 rv e1 x1 w er1 hp1 => ?_
  cases q2 : iterOf S1 d with
  | none => rw [q2] at hp1; exact absurd rfl hp1.1
  | some it =>
    have q3 : lIter l ρ S = .ok it S1 := by unfold lIter; rw [q, bind_ok, q2]; rfl
    have K2 := fun J y => k it S1 q3 J H1 m1 e1 x1 y
    cases w with
    | @lst a vs xs n h r =>
      cases q2
      obtain rfl : u = Value.ref a := rv
      obtain ⟨its, rv', pp, hz⟩ := I1.list (.inl h)
      refine wpAny_pyIter_list pp.isList ?_
      refine ⟨s1.heap.objs.size, [s1.heap.objs.size], _, _, H1, rfl, I1.kept (t' := s1.toks) fun b o e => Heap.get?_push_of_some _ e, turn_list a _, ⟨_, Heap.get?_push_size _ rfl, rfl, rfl⟩, fun b hb => ?_, K2 _ (yl_list x1.muts n h r)⟩
      have e : b = s1.heap.objs.size := by simpa using hb
      subst e
      exact I1.fpOk (Nat.le_refl _) (I1.hok.fresh (Nat.le_refl _))
    | @lstK a vs xs ob its n hk h1 h2 h3 h4 h5 r =>
      cases q2
      obtain rfl : u = Value.ref a := rv
      obtain ⟨its, rv', pp, hz⟩ := I1.list (H := H1) (a := a) (.inr ⟨ob, its, n, hk, h1, h2, h3, h4, h5⟩)
      refine wpAny_pyIter_list pp.isList ?_
      refine ⟨s1.heap.objs.size, [s1.heap.objs.size], _, _, H1, rfl, I1.kept (t' := s1.toks) fun b o e => Heap.get?_push_of_some _ e, turn_list a _, ⟨_, Heap.get?_push_size _ rfl, rfl, rfl⟩, fun b hb => ?_, K2 _ (yl_listK x1.muts (fun _ => .inr ⟨ob, _, n, hk, h1, h2, h3, h4, h5⟩) r)⟩
      have e : b = s1.heap.objs.size := by simpa using hb
      subst e
      exact I1.fpOk (Nat.le_refl _) (I1.hok.fresh (Nat.le_refl _))
    | @tup a vs xs h r =>
      cases q2
      obtain rfl : u = Value.ref a := rv
      obtain ⟨its, rv', pp, hz⟩ := I1.tuple (SqT.of h)
      refine wpAny_pyIter_tuple (show s1.heap.IsTuple a its.toArray from pp) ?_
      refine ⟨s1.heap.objs.size, [s1.heap.objs.size], _, _, H1, rfl, I1.kept (t' := s1.toks) fun b o e => Heap.get?_push_of_some _ e, turn_tuple a _, ⟨_, Heap.get?_push_size _ rfl, rfl, rfl⟩, fun b hb => ?_, K2 _ (yl_tup x1.muts h r)⟩
      have e : b = s1.heap.objs.size := by simpa using hb
      subst e
      exact I1.fpOk (Nat.le_refl _) (I1.hok.fresh (Nat.le_refl _))
    | str z =>
      cases q2
      obtain ⟨tk, rfl⟩ := rv
      cases ha : z.cps.all (· < 128)
      · exact wpAny_pyIter_wide ha (pi_one (tk := s1.toks) I1 _ (turn_str _ z tk "str_iterator" (.inr rfl)) ⟨_, Heap.get?_push_size _ rfl, rfl, rfl⟩ (K2 _ yl_str))
      · exact wpAny_pyIter_ascii ha (pi_one (tk := s1.toks) I1 _ (turn_str _ z tk "str_ascii_iterator" (.inl rfl)) ⟨_, Heap.get?_push_size _ rfl, rfl, rfl⟩ (K2 _ yl_str))
    | @ref i a h =>
      dsimp only [iterOf] at q2
      cases q4 : S1[i]? with
      | none => rw [q4] at q2; cases q2
      | some ob =>
        rw [q4] at q2
        cases ob with
        | lst xs =>
          cases q2
          have z := x1.at_ i a _ h q4
          cases z with
          | lst h' r =>
            obtain rfl : u = Value.ref a := rv
            obtain ⟨its, rv', pp, hz⟩ := I1.list (SqL.of h')
            refine wpAny_pyIter_list pp.isList ?_
            refine ⟨s1.heap.objs.size, [s1.heap.objs.size], _, _, H1, rfl, I1.kept (t' := s1.toks) fun b o e => Heap.get?_push_of_some _ e, turn_list a _, ⟨_, Heap.get?_push_size _ rfl, rfl, rfl⟩, fun b hb => ?_, K2 _ (yl_ref h)⟩
            have e : b = s1.heap.objs.size := by simpa using hb
            subst e
            exact I1.fpOk (Nat.le_refl _) (I1.hok.fresh (Nat.le_refl _))
        | dct _ => cases q2
        | ins _ _ => cases q2
    | _ => cases q2
/-- range(n) -/
def lRange1 (t : LA) : LI := fun ρ S => (t ρ S).bind fun ds S1 => match ds with
  | [.int j] => if -(2 ^ 62) ≤ j ∧ j < 2 ^ 62 then .ok ⟨(List.range j.toNat).map fun (i : Nat) => .int (i : Int), fun _ => True⟩ S1 else .bad
  | _ => .bad
theorem pil_range1 (hg : Gl X "range") (hm : X.mg "range" = none) (ha : PAL X [a] t) (hs : starEach [a] X.env = [(false, eval a X.env)] := by rfl) : PIL X tg (.Call (.Name "range" p) [a] [] pos) (lRange1 t) := by
  refine ⟨fun pins s σ H Rr I ⟨m, ρ, S, x, er, hp, k⟩ => ?_⟩
  refine Call_ (ld_blt I hg hm boot_range (PyProof.Rows.callWith_type1 (run_seqA ha I x er hp fun ds S1 q1 vs us s1 H1 m1 I1 rv e1 x1 w1 r1 hp1 => ?_) hs rfl))
  cases w1 with
  | nil => exact absurd rfl hp1.1
  | cons w w2 =>
    cases w2 with
    | cons _ _ => cases w <;> exact absurd rfl hp1.1
    | nil =>
      cases w with
      | int j =>
        have hz := hope_if hp1
        have q2 : lRange1 t ρ S = .ok ⟨(List.range j.toNat).map fun (i : Nat) => .int (i : Int), fun _ => True⟩ S1 := by unfold lRange1; rw [q1, bind_ok]; exact if_pos hz
        cases rv with
        | cons r rr =>
          cases rr
          obtain ⟨tk, rfl⟩ := r
          refine call_range_1 (range_it I1 (by omega) (by omega) hz.1 hz.2 (k _ S1 q2 _ H1 m1 e1 x1 fun m2 H2 S2 Hx e x _ sup => ⟨fun i d hi => ?_, fun i hi => ?_⟩))
          · have hl : i < (j - 0).toNat := by
              have := (List.getElem?_eq_some_iff.mp hi).1
              simpa using this
            refine ⟨hl, fun y H' q => .inl ⟨q.1, ?_⟩⟩
            rw [q.2]
            simp only [List.getElem?_map, List.getElem?_range (show i < j.toNat by simpa using hl), Option.map_some, Option.some.injEq] at hi
            subst hi
            rw [Int.zero_add]
            exact .int _
          · show (j - 0).toNat ≤ i
            simpa using hi
      | _ => exact absurd rfl hp1.1
/-- enumerate(a list) -/
def enumD (xs : List D) : List D := (List.range xs.length).zipWith (fun (i : Nat) x => .tup [.int (i : Int), x]) xs
def lEnum (t : LA) : LI := fun ρ S => (t ρ S).bind fun ds S1 => match ds with
  | [.lst xs] => .ok ⟨enumD xs, fun _ => True⟩ S1
  | _ => .bad
theorem enumD_get {xs : List D} {i : Nat} {d : D} (h : (enumD xs)[i]? = some d) : ∃ x, xs[i]? = some x ∧ d = .tup [.int (i : Int), x] := by
  unfold enumD at h
  rw [List.getElem?_zipWith] at h
  cases q : xs[i]? with
  | none => rw [q] at h; cases h2 : (List.range xs.length)[i]? <;> rw [h2] at h <;> cases h
  | some x =>
    have hl := (List.getElem?_eq_some_iff.mp q).1
    rw [q, List.getElem?_range hl] at h
    cases h
    exact ⟨x, rfl, rfl⟩
theorem enumD_length (xs : List D) : (enumD xs).length = xs.length := by simp [enumD]
theorem yl_enum {K : PySem.W.Frag} {m1 : List Addr} {H1 : Hp} {a : Addr} {vs : List V} {xs : List D} (mu : ∀ a ∈ m1, Mut (H1 a)) (n : a ∉ m1) (h : Rd H1 a (.lst vs)) (r : VRs K m1 H1 vs xs) : Ylds K (Ite K a) m1 H1 ⟨enumD xs, fun _ => True⟩ := fun m2 H2 S2 Hx e x _ sup => by
  have h2 := e.rd n h
  have h3 : SqL K Hx a vs := by
    rcases h2 with h2 | ⟨o, h2⟩
    · exact .inl (.inl (sup _ _ h2))
    · exact .inl (.inr ⟨o, sup _ _ h2⟩)
  have r2 := r.ext e mu
  refine ⟨fun i d hi => ?_, fun i hi => ⟨vs, h3, by rw [r.length, ← enumD_length]; exact hi⟩⟩
  obtain ⟨y, hy, rfl⟩ := enumD_get hi
  obtain ⟨v, hv, w⟩ := r2.getr hy
  refine ⟨⟨vs, v, h3, hv⟩, fun z H' q => .inr ?_⟩
  obtain ⟨T, z1, ez, hT, eH, hz⟩ := q
  have := hz vs h3
  rw [hv] at this
  cases this
  exact ⟨T, [.int i, v], _, hT, eH, ez, rfl, .cons (.int _) (.cons w .nil)⟩
theorem pil_enum {elts : List Expr} {kk : Nat} {tpos : Pos} (hg : Gl X "enumerate") (hm : X.mg "enumerate" = none) (ha : PAL X [e] t) (hs : starEach [e] X.env = [(false, eval e X.env)] := by rfl) :
    PIL X (.Tuple elts kk tpos) (.Call (.Name "enumerate" p) [e] [] pos) (lEnum t) := by
  refine ⟨fun pins s σ H Rr I ⟨m, ρ, S, x, er, hp, k⟩ => ?_⟩
  refine Call_ (ld_blt I hg hm boot_enumerate (PyProof.Rows.callWith_type1 (run_seqA ha I x er hp fun ds S1 q1 vs us s1 H1 m1 I1 rv e1 x1 w1 r1 hp1 => ?_) hs rfl))
  cases w1 with
  | nil => exact absurd rfl hp1.1
  | cons w w2 =>
    cases w2 with
    | cons _ _ => cases w <;> exact absurd rfl hp1.1
    | nil =>
      have fin : ∀ {a : Addr} {vs : List V} {xs : List D}, SqL X.K H1 a vs → us = [Value.ref a] → Ylds X.K (Ite X.K a) m1 H1 ⟨enumD xs, fun _ => True⟩ → lEnum t ρ S = .ok ⟨enumD xs, fun _ => True⟩ S1 → wpAny (model X.prog X.w) X.A (call (.type "enumerate") us) (fun itv s₂ => wpAny (model X.prog X.w) X.A (pyIter itv) (PIE X pins σ (.Tuple elts kk tpos) Rr) X.xe s₂) X.xe s1 := by
        intro a vs xs hq hu yl q2
        subst hu
        obtain ⟨its, rv', p', hz⟩ := I1.list hq
        refine call_enumerate_list p'.isList fun h' he hit hsz hk => wpAny_pyIter_enum he ?_
        have I2 : Inv X pins σ H1 { s1 with heap := h' } := I1.kept (t' := s1.toks) hk
        refine ⟨s1.heap.objs.size + 1, [s1.heap.objs.size + 1, s1.heap.objs.size], _, _, H1, rfl, I2, turn_enum a (s1.heap.objs.size + 1) s1.heap.objs.size, ⟨⟨.none, he⟩, hit, Nat.succ_ne_self _⟩, fun b hb => ?_, k _ S1 q2 _ H1 m1 e1 x1 yl⟩
        have e' : b = s1.heap.objs.size + 1 ∨ b = s1.heap.objs.size := by simpa using hb
        have hle : s1.heap.objs.size ≤ b := by
          rcases e' with z | z
          · rw [z]; exact Nat.le_add_right _ _
          · rw [z]; exact Nat.le_refl _
        exact I1.fpOk hle (I1.hok.fresh hle)
      cases w with
      | @lst a vs xs n h r =>
        refine fin (.inl h) ?_ (yl_enum x1.muts n h r) (by unfold lEnum; rw [q1]; rfl)
        cases rv with
        | cons r rr =>
          cases rr
          cases r
          rfl
      | @lstK a vs xs ob its n hk h1 h2 h3 h4 h5 r =>
        refine fin (a := a) (.inr ⟨ob, its, n, hk, h1, h2, h3, h4, h5⟩) ?_ (fun m2 H2 S2 Hx e x _ sup => ?_) (by unfold lEnum; rw [q1]; rfl)
        · cases rv with
          | cons r rr =>
            cases rr
            cases r
            rfl
        · have h3 : SqL X.K Hx a vs := .inr ⟨ob, its, n, hk, h1, h2, h3, h4, h5⟩
          have r2 := r.ext e x1.muts
          refine ⟨fun i d hi => ?_, fun i hi => ⟨vs, h3, by rw [r.length, ← enumD_length]; exact hi⟩⟩
          obtain ⟨y, hy, rfl⟩ := enumD_get hi
          obtain ⟨v, hv, w⟩ := r2.getr hy
          refine ⟨⟨vs, v, h3, hv⟩, fun z H' q => .inr ?_⟩
          obtain ⟨T, z1, ez, hT, eH, hz⟩ := q
          have := hz vs h3
          rw [hv] at this
          cases this
          exact ⟨T, [.int i, v], _, hT, eH, ez, rfl, .cons (.int _) (.cons w .nil)⟩
      | _ => exact absurd rfl hp1.1
end
end MP

namespace MP
open PySem PySem.Spec PyProof.Rows L2

/-! ### targets -/
abbrev GT := D → Ev → Option Ev
abbrev GTs := List D → Ev → Option Ev
def tGL (K : PySem.W.Frag) (ix : List Nat) (g : GT) : TG := fun v σ H Q => ∃ m Hr ρ d ρ', (∀ a xs, Hr a = some (.tup xs) → H a = some (.tup xs)) ∧ VR K m Hr v d ∧ ER K m Hr σ ρ ∧ ρ.length = σ.length ∧ g d ρ = some ρ' ∧
  ∀ σ', ER K m Hr σ' ρ' → ρ'.length = σ'.length → σ'.length = σ.length → (∀ j, j ∉ ix → σ'[j]? = σ[j]?) → Q σ' H
def tGLs (K : PySem.W.Frag) (ix : List Nat) (g : GTs) : TGs := fun vs σ H Q => ∃ m Hr ρ ds ρ', (∀ a xs, Hr a = some (.tup xs) → H a = some (.tup xs)) ∧ VRs K m Hr vs ds ∧ ER K m Hr σ ρ ∧ ρ.length = σ.length ∧ g ds ρ = some ρ' ∧
  ∀ σ', ER K m Hr σ' ρ' → ρ'.length = σ'.length → σ'.length = σ.length → (∀ j, j ∉ ix → σ'[j]? = σ[j]?) → Q σ' H
def PGL (X : Cx) (tg : Expr) (ix : List Nat) (g : GT) : Prop := PG X tg (tGL X.K ix g)
def PGsL (X : Cx) (tgs : List Expr) (ix : List Nat) (g : GTs) : Prop := PGs X tgs (tGLs X.K ix g)
theorem pg_imp {X : Cx} {tg : Expr} {t u : TG} (h : PG X tg t) (k : ∀ v σ H Q, u v σ H Q → t v σ H Q) : PG X tg u := ⟨fun pins s σ H v u' Q I r q => h.run pins s σ H v u' Q I r (k v σ H Q q)⟩
theorem pgs_imp {X : Cx} {tg : List Expr} {t u : TGs} (h : PGs X tg t) (k : ∀ v σ H Q, u v σ H Q → t v σ H Q) : PGs X tg u := ⟨fun pins s σ H v u' Q I r q => h.run pins s σ H v u' Q I r (k v σ H Q q)⟩
def gtName (i : Nat) : GT := fun d ρ => some (ρ.set i (some d))
def gtNil : GTs := fun ds ρ => match ds with
  | [] => some ρ
  | _ :: _ => none
def gtCons (g : GT) (gs : GTs) : GTs := fun ds ρ => match ds with
  | [] => none
  | d :: r => (g d ρ).bind fun ρ' => gs r ρ'
def gtTup (n : Nat) (gs : GTs) : GT := fun d ρ => match d with
  | .tup ds => if ds.length = n then gs ds ρ else none
  | _ => none
section
variable {X : Cx} {pos : Pos} {x : Str} {e : Expr} {es : List Expr}
theorem pgl_name {i : Nat} (hN : X.N.Nodup) (hi : X.N[i]? = some x := by rfl) (hx : Loc X.env.scope x := by first | exact .inl rfl | exact .inr rfl) (hf : X.fn x = true ∨ X.env.scope.names.lookup x = some .local := by first | exact .inl rfl | exact .inr rfl | assumption) : PGL X (.Name x pos) [i] (gtName i) :=
  pg_imp (pg_name hN hi hx hf) fun v σ H Q ⟨m, Hr, ρ, d, ρ', h1, h2, h3, h4, h5, k⟩ => by
    cases h5
    exact k _ (h3.set h2) (by simp [h4]) (by simp) fun j hj => by rw [List.getElem?_set_ne (fun z => hj (by simp [z]))]
theorem pgsl_nil : PGsL X [] [] gtNil := pgs_imp pgs_nil fun vs σ H Q ⟨m, Hr, ρ, ds, ρ', h1, h2, h3, h4, h5, k⟩ => by
  cases h2 with
  | nil => cases h5; exact ⟨rfl, k σ h3 h4 rfl fun _ _ => rfl⟩
  | cons _ _ => cases h5
theorem pgsl_cons {ix ix' : List Nat} {g : GT} {gs : GTs} (h1 : PGL X e ix g) (h2 : PGsL X es ix' gs) (hs : (assignEach (e :: es) X.env).map (·.2) = assign e X.env :: (assignEach es X.env).map (·.2) := by rfl) : PGsL X (e :: es) (ix ++ ix') (gtCons g gs) :=
  pgs_imp (pgs_cons h1 h2 hs) fun vs σ H Q ⟨m, Hr, ρ, ds, ρ', h1, h2, h3, h4, h5, k⟩ => by
    cases h2 with
    | nil => cases h5
    | @cons v d vs ds hv hr =>
      dsimp only [gtCons] at h5
      cases q : g d ρ with
      | none => rw [q] at h5; cases h5
      | some ρ1 =>
        rw [q] at h5
        exact ⟨v, vs, rfl, m, Hr, ρ, d, ρ1, h1, hv, h3, h4, q, fun σ1 e1 l1 l2 k1 => ⟨m, Hr, ρ1, ds, ρ', h1, hr, e1, l1, h5, fun σ2 e2 l3 l4 k2 => k σ2 e2 l3 (l4.trans l2) fun j hj => (k2 j fun z => hj (List.mem_append_right _ z)).trans (k1 j fun z => hj (List.mem_append_left _ z))⟩⟩
theorem pgl_tup {ix : List Nat} {gs : GTs} {n k : Nat} (hc : X.calm = true) (h : PGsL X es ix gs) (hn : (assignEach es X.env).length = n := by rfl) (hst : (assignEach es X.env).findIdx? (·.1) = none := by rfl) : PGL X (.Tuple es k pos) ix (gtTup n gs) :=
  pg_imp (pg_tup (n := n) hc h hn hst) fun v σ H Q ⟨m, Hr, ρ, d, ρ', h1, h2, h3, h4, h5, k⟩ => by
    cases h2 with
    | @tup a vs ds ha hr =>
      dsimp only [gtTup] at h5
      split at h5
      · rename_i hl
        exact ⟨a, vs, rfl, SqT.of (h1 _ _ ha), by rw [hr.length]; exact hl, m, Hr, ρ, ds, ρ', h1, hr, h3, h4, h5, k⟩
      · cases h5
    | _ => cases h5
end

/-! ### for -/
open Classical in
noncomputable def forG (ρ0 : Ev) (chk : Sto → Prop) (g : GT) (lb : LS) : List D → LS
  | [] => fun ρ S => if chk S then .ok (.nx ρ) S else .bad
  | d :: ds => fun ρ S => if chk S then (match g d ρ with
    | some ρ1 => (lb ρ1 S).bind (Fl.loop ρ0 (forG ρ0 chk g lb ds))
    | none => .bad) else .bad
noncomputable def lFor (li : LI) (g : GT) (lb : LS) : LS := fun ρ S => liftX ρ (li ρ S) fun it S1 => forG ρ it.chk g lb it.items ρ S1
theorem ys_vr {K : PySem.W.Frag} {m : List Addr} {H Hx H' : Hp} {x : V} {d : D} (mu : ∀ a ∈ m, Mut (H a)) (h : YS K m H H x H' d) : VR K m H' x d ∧ Ext m H m H' := by
  rcases h with ⟨rfl, h⟩ | ⟨T, ws, ds, hT, rfl, rfl, rfl, r⟩
  · exact ⟨h, Ext.refl⟩
  · exact ⟨.tup upd_same (r.ext (Ext.fresh hT) mu), Ext.fresh hT⟩
theorem psl_for {X : Cx} {tg iter : Expr} {body : List Stmt} {li : LI} {ix : List Nat} {g : GT} {lb : LS} {pos : Pos} (hp : PassesOwn (model X.prog X.w) X.A X.env X.xe) (hc : X.calm = true) (hi : PIL X tg iter li) (hg : PGL X tg ix g) (hb : PSsL X body lb)
    (hs : ∀ x, foldedSetIterable iter X.env x = pure x := by intro _; rfl) : PSL X (.For tg iter body [] pos) (lFor li g lb) := by
  refine ps_imp (ps_for hp hc hi hg hb hs) fun D σ H ⟨m0, ρ0, S0, x0, er0, hl0, h0⟩ => ?_
  have h0' : HS X D m0 H (liftX ρ0 (li ρ0 S0) fun it S1 => forG ρ0 it.chk g lb it.items ρ0 S1) := h0
  refine ⟨m0, ρ0, S0, x0, er0, HS.hope h0' er0 hl0 x0, fun it S1 q J H1 m1 e1 x1 yl => ?_⟩
  rw [q] at h0'
  have h1 : HS X D m1 H1 (forG ρ0 it.chk g lb it.items ρ0 S1) := HS.ext h0' e1
  refine ⟨fun i k σ H => k + i = it.items.length ∧ ∃ m ρ S, Ext m1 H1 m H ∧ SR X.K m H S ∧ ER X.K m H σ ρ ∧ ρ.length = σ.length ∧ HS X D m H (forG ρ0 it.chk g lb (it.items.drop i) ρ S), ⟨it.items.length, by simp, m1, ρ0, S1, Ext.refl, x1, er0.ext e1 x0.muts, hl0, by simpa using h1⟩, ?_⟩
  rintro i k σ H ⟨hk, m, ρ, S, e, x, er, hl, h⟩
  by_cases hi : i < it.items.length
  · have hd : it.items.drop i = it.items[i] :: it.items.drop (i + 1) := List.drop_eq_getElem_cons hi
    rw [hd] at h
    have hchk : it.chk S := by
      by_cases z : it.chk S
      · exact z
      · obtain ⟨fl, S', q⟩ := h.ok
        dsimp only [forG] at q
        rw [if_neg z] at q
        cases q
    dsimp only [forG] at h
    rw [if_pos hchk] at h
    cases hgd : g it.items[i] ρ with
    | none => rw [hgd] at h; obtain ⟨fl, S', q⟩ := h.ok; cases q
    | some ρ1 =>
      rw [hgd] at h
      dsimp only at h
      obtain ⟨y1, y2⟩ := yl m H S H e x hchk fun _ _ z => z
      obtain ⟨go, yy⟩ := y1 i it.items[i] (List.getElem?_eq_getElem hi)
      refine .inr ⟨go, fun σ' H' => ∃ m ρ S, Ext m1 H1 m H' ∧ SR X.K m H' S ∧ ER X.K m H' σ' ρ ∧ ρ.length = σ'.length ∧ HS X D m H' (forG ρ0 it.chk g lb (it.items.drop (i + 1)) ρ S), fun σ' H' z => ⟨k - 1, by omega, by omega, z⟩, fun v H' hy => ?_⟩
      obtain ⟨w, e2⟩ := ys_vr (Hx := H) x.muts (yy v H' hy)
      have x2 : SR X.K m H' S := by
        rcases yy v H' hy with ⟨rfl, _⟩ | ⟨T, ws, ds, hT, rfl, _⟩
        · exact x
        · exact x.fresh hT
      refine ⟨m, H', ρ, it.items[i], ρ1, fun _ _ z => z, w, er.ext e2 x.muts, hl, hgd, fun σ2 er2 hl2 _ _ => ⟨m, ρ1, S, x2, er2, hl2, ?_⟩⟩
      obtain ⟨fl, S', qok⟩ := (HS.ext h e2).ok
      obtain ⟨a, S3, qa, qb⟩ := bind_nbad qok
      -- the ways out, by the place where they lie
      have key : (lb ρ1 S).bind (Fl.loop ρ0 (forG ρ0 it.chk g lb (it.items.drop (i + 1)))) = Fl.loop ρ0 (forG ρ0 it.chk g lb (it.items.drop (i + 1))) a S3 := by rw [qa]; rfl
      have hA := HS.ext h e2
      rw [key] at hA
      refine ⟨⟨a, S3, qa⟩, fun ρ' S2 ee σ' H'' z => ?_, fun d S2 ee v H'' z => ?_, fun ρ' S2 ee σ' H'' z => ?_, fun ρ' S2 ee σ' H'' z => ?_, fun C fs ρ' S2 ee u s' z => ?_⟩
      · rw [qa] at ee
        cases ee
        obtain ⟨m', e', x', er', hl'⟩ := z.wk ρ0
        exact ⟨m', _, S3, (e.trans e2).trans e', x', er', hl', HS.ext hA e'⟩
      · rw [qa] at ee
        cases ee
        exact hA.rt d S3 rfl v H'' z
      · rw [qa] at ee
        cases ee
        exact hA.nx _ S3 rfl σ' H'' (z.wk ρ0)
      · rw [qa] at ee
        cases ee
        obtain ⟨m', e', x', er', hl'⟩ := z.wk ρ0
        exact ⟨m', _, S3, (e.trans e2).trans e', x', er', hl', HS.ext hA e'⟩
      · rw [qa] at ee
        cases ee
        exact hA.ex C fs ρ' S3 rfl u s' z
  · have hd : it.items.drop i = [] := List.drop_eq_nil_of_le (by omega)
    rw [hd] at h
    have hchk : it.chk S := by
      by_cases z : it.chk S
      · exact z
      · obtain ⟨fl, S', q⟩ := h.ok
        dsimp only [forG] at q
        rw [if_neg z] at q
        cases q
    dsimp only [forG] at h
    rw [if_pos hchk] at h
    obtain ⟨y1, y2⟩ := yl m H S H e x hchk fun _ _ z => z
    exact .inl ⟨y2 i (by omega), h.nx ρ S rfl σ H (sv_same x er hl)⟩
end MP

namespace MP
open PySem PySem.Spec PyProof.Rows L2

/-! ### a list that is being made is hidden -/
def hid (H : Hp) (p : Addr) : Hp := fun b => if b = p then none else H b
theorem hid_ne {H : Hp} {a p : Addr} (h : a ≠ p) : hid H p a = H a := if_neg h
theorem hid_same {H : Hp} {p : Addr} : hid H p p = none := if_pos rfl
section
variable {X : Cx} {pins : List (Addr × Obj)} {σ : L2.St} {H : Hp} {s : Shared} {p : Addr} {vs : List V}
theorem hide_inv (I : Inv X pins σ H s) (hD : H p = some (.lst vs)) : ∃ o, Inv X ((p, o) :: pins) σ (hid H p) s ∧ ∀ σ' s' H', Inv X ((p, o) :: pins) σ' H' s' → Inv X pins σ' (upd H' p (.lst vs)) s' ∧ H' p = none := by
  obtain ⟨hz, its, n, rv, ho⟩ : vs.length ≤ sizeLine ∧ ∃ (its : List Value) (n : Nat), Vals vs its ∧ s.heap.get? p = some { cls := .type "list", data := .seq its.toArray n } := I.hok p _ hD
  have ns : ∀ b o, X.s_0.heap.get? b = some o → X.H_0 b = none → b ∉ X.ex → b ≠ p := fun b o q n hx z => by
    have := I.base.free b o q n hx
    rw [z, hD] at this; cases this
  have nt : ∀ b u, H b = some u → (∀ xs, u ≠ .lst xs) → b ≠ p := fun b u q nl z => by
    rw [z, hD] at q
    cases q
    exact nl _ rfl
  have nloc : p ≠ X.env.locals := fun z => by
    have := I.free
    rw [← z, hD] at this; cases this
  have nfs : p ∉ X.fs := fun hb => by
    obtain ⟨_, o, ho', _⟩ := I.ok.funs.mem hb
    have := I.base.free p o ho' (I.ok.frf p hb) fun z => I.ok.exfs p z hb
    rw [hD] at this; cases this
  refine ⟨{ cls := .type "list", data := .seq its.toArray n }, ⟨I.ok, I.os, I.bare, ⟨I.base.keep, I.base.slot, fun b o q n hx => ?_, I.base.there, fun b xs q => ?_, fun b o u q => ?_, fun b ps q => ?_⟩, I.loc, I.cell, ?_, fun x c e => ?_, fun q hq => ?_, fun b u q => ?_, I.len⟩, fun σ' s' H' J => ?_⟩
  · rw [hid_ne (ns b o q n hx)]; exact I.base.free b o q n hx
  · rw [hid_ne (nt b _ (I.base.tups b xs q) fun _ z => nomatch z)]; exact I.base.tups b xs q
  · rw [hid_ne (nt b _ (I.base.frzs b o u q) fun _ z => nomatch z)]; exact I.base.frzs b o u q
  · obtain ⟨more, e⟩ := I.base.tbls b ps q
    exact ⟨more, by rw [hid_ne (nt b _ e fun _ z => nomatch z)]; exact e⟩
  · rw [hid_ne nloc.symm]; exact I.free
  · by_cases hc : c = p
    · rw [hc]; exact hid_same
    · rw [hid_ne hc]; exact I.freeC x c e
  · rcases List.mem_append.mp hq with z | z
    · obtain ⟨a1, a2, a3⟩ := I.pin q (List.mem_append_left _ z)
      refine ⟨a1, ?_, a3⟩
      by_cases hc : q.1 = p
      · rw [hc]; exact hid_same
      · rw [hid_ne hc]; exact a2
    · rcases List.mem_cons.mp z with z | z
      · subst z
        exact ⟨ho, hid_same, nloc, nfs, fun v z => nomatch z⟩
      · obtain ⟨a1, a2, a3⟩ := I.pin q (List.mem_append_right _ z)
        refine ⟨a1, ?_, a3⟩
        by_cases hc : q.1 = p
        · rw [hc]; exact hid_same
        · rw [hid_ne hc]; exact a2
  · have hb : b ≠ p := fun z => by rw [z, hid_same] at q; cases q
    rw [hid_ne hb] at q
    exact (I.hok b u q).stay (fun c v _ z => z) (fun c z => by rw [hid_ne (nt c _ z fun _ z => nomatch z)]; exact z) fun c xs z => by rw [hid_ne (nt c _ z fun _ z => nomatch z)]; exact z
  · obtain ⟨p1, p2, _⟩ := J.pin (p, _) (List.mem_append_right _ List.mem_cons_self)
    have n2 : ∀ b u, H' b = some u → b ≠ p := fun b u q z => by rw [z, p2] at q; cases q
    refine ⟨⟨J.ok, J.os, J.bare, ⟨J.base.keep, J.base.slot, fun b o q n hx => ?_, J.base.there, fun b xs q => ?_, fun b o u q => ?_, fun b ps q => ?_⟩, J.loc, J.cell, ?_, fun x c e => ?_, fun q hq => ?_, fun b u q => ?_, J.len⟩, p2⟩
    · rw [upd_ne (ns b o q n hx)]; exact J.base.free b o q n hx
    · rw [upd_ne (n2 b _ (J.base.tups b xs q))]; exact J.base.tups b xs q
    · rw [upd_ne (n2 b _ (J.base.frzs b o u q))]; exact J.base.frzs b o u q
    · obtain ⟨more, e⟩ := J.base.tbls b ps q
      exact ⟨more, by rw [upd_ne (n2 b _ e)]; exact e⟩
    · rw [upd_ne nloc.symm]; exact J.free
    · have : c ≠ p := fun z => by
        have := I.freeC x c e
        rw [z, hD] at this; cases this
      rw [upd_ne this]; exact J.freeC x c e
    · have hq' : q ∈ X.pn ++ (p, ({ cls := .type "list", data := .seq its.toArray n } : Obj)) :: pins := by
        rcases List.mem_append.mp hq with z | z
        · exact List.mem_append_left _ z
        · exact List.mem_append_right _ (List.mem_cons_of_mem _ z)
      obtain ⟨a1, a2, a3⟩ := J.pin q hq'
      refine ⟨a1, ?_, a3⟩
      have : q.1 ≠ p := fun z => by
        have := (I.pin q hq).2.1
        rw [z, hD] at this; cases this
      rw [upd_ne this]; exact a2
    · by_cases hb : b = p
      · subst hb
        rw [upd_same] at q
        cases q
        exact ⟨hz, its, n, rv, p1⟩
      · rw [upd_ne hb] at q
        exact (J.hok b u q).stay (fun c v _ z => z) (fun c z => by rw [upd_ne (n2 c _ z)]; exact z) fun c xs z => by rw [upd_ne (n2 c _ z)]; exact z
def tHide (t : TE) : TE := fun σ H Q => ∃ p vs, H p = some (.lst vs) ∧ t σ (hid H p) fun v H' => H' p = none → Q v (upd H' p (.lst vs))
def tHideT (t : TT) : TT := fun σ H Q => ∃ p vs, H p = some (.lst vs) ∧ t σ (hid H p) fun v H' => H' p = none → Q v (upd H' p (.lst vs))
theorem pe_hide {e : Expr} {t : TE} (h : PE X e t) : PE X e (tHide t) := by
  refine ⟨fun pins s σ H Q I ⟨p, vs, hp, q⟩ => ?_⟩
  obtain ⟨o, I1, back⟩ := hide_inv I hp
  exact thn (h.run _ s σ _ _ I1 q) fun u s' ⟨v, H', I', rv, q'⟩ => ⟨v, _, (back _ _ _ I').1, rv, q' (back _ _ _ I').2⟩
theorem pts_hide {es : List Expr} {t : TT} (h : PTs X es t) : PTs X es (tHideT t) := by
  refine ⟨fun pins s σ H Q I ⟨p, vs, hp, q⟩ => ?_⟩
  obtain ⟨o, I1, back⟩ := hide_inv I hp
  exact thn (h.run _ s σ _ _ I1 q) fun u s' ⟨H', I', q'⟩ => ⟨_, (back _ _ _ I').1, q' (back _ _ _ I').2⟩
end

/-! ### comprehensions -/
def noex {α : Type} (r : R α) : R α := match r with
  | .exc _ _ _ => .bad
  | r => r
def wipeE (ρ : Ev) : List Nat → Ev
  | [] => ρ
  | i :: r => (wipeE ρ r).set i none
open Classical in
noncomputable def compG (chk : Sto → Prop) (g : GT) (tt : LT) (te : LE) (ρ0 : Ev) : List D → Sto → R (List D)
  | [], S => if chk S then .ok [] S else .bad
  | d :: ds, S => if chk S then (match g d ρ0 with
    | some ρ1 => (noex (tt ρ1 S)).bind fun b S1 => if b = true then (noex (te ρ1 S1)).bind fun y S2 => (compG chk g tt te ρ0 ds S2).bind fun ys S3 => .ok (y :: ys) S3 else compG chk g tt te ρ0 ds S1
    | none => .bad) else .bad
noncomputable def compL (li : LI) (ix : List Nat) (g : GT) (tt : LT) (te : LE) : LA := fun ρ S => (li ρ S).bind fun it S1 => if it.items.length ≤ sizeLine then compG it.chk g tt te (wipeE ρ ix) it.items S1 else .bad
/-- the list as it is; a list of the store -/
noncomputable def lComp (li : LI) (ix : List Nat) (g : GT) (tt : LT) (te : LE) : LE := fun ρ S => (compL li ix g tt te ρ S).bind fun ys S2 => .ok (.lst ys) S2
noncomputable def lCompN (li : LI) (ix : List Nat) (g : GT) (tt : LT) (te : LE) : LE := fun ρ S => (compL li ix g tt te ρ S).bind fun ys S2 => .ok (.ref S2.length) (S2 ++ [.lst ys])
def tYesL : LT := fun _ S => .ok true S
theorem wipeE_some : ∀ {ix : List Nat} {ρ : Ev} {i : Nat} {d : D}, (wipeE ρ ix)[i]? = some (some d) → ρ[i]? = some (some d) ∧ i ∉ ix
  | [], _, _, _, h => ⟨h, by simp⟩
  | j :: r, ρ, i, d, h => by
    by_cases hj : j = i
    · subst hj
      simp only [wipeE] at h
      by_cases hl : j < (wipeE ρ r).length
      · rw [List.getElem?_set_self hl] at h; cases h
      · rw [List.getElem?_eq_none (by simp; omega)] at h; cases h
    · simp only [wipeE] at h
      rw [List.getElem?_set_ne hj] at h
      obtain ⟨a, b⟩ := wipeE_some h
      exact ⟨a, by simp [b]; exact fun z => hj z.symm⟩
theorem wipeE_length (ρ : Ev) : ∀ ix : List Nat, (wipeE ρ ix).length = ρ.length
  | [] => rfl
  | j :: r => by simp [wipeE, wipeE_length ρ r]
theorem ER.wipe {K : PySem.W.Frag} {m : List Addr} {H : Hp} {σ : L2.St} {ρ : Ev} (r : ER K m H σ ρ) (ix : List Nat) : ER K m H (L2.wipe σ ix) (wipeE ρ ix) := ⟨fun i d h => by
  obtain ⟨h1, h2⟩ := wipeE_some h
  obtain ⟨v, h3, h4⟩ := r.at_ i d h1
  exact ⟨v, by rw [wipe_out h2]; exact h3, h4⟩, by rw [wipeE_length, wipe_length]; exact r.len⟩
theorem wipe_eq {σ σ' : L2.St} {ix : List Nat} (hl : σ'.length = σ.length) (h : ∀ j, j ∉ ix → σ'[j]? = σ[j]?) : L2.wipe σ' ix = L2.wipe σ ix := by
  apply List.ext_getElem?
  intro i
  by_cases hi : i ∈ ix
  · have z : ∀ τ : L2.St, τ.length = σ.length → (L2.wipe τ ix)[i]? = if i < σ.length then some none else none := fun τ ht => by
      cases q : (L2.wipe τ ix)[i]? with
      | none =>
        rw [List.getElem?_eq_none_iff, wipe_length, ht] at q
        rw [if_neg (by omega)]
      | some o =>
        have h1 := (List.getElem?_eq_some_iff.mp q).1
        rw [wipe_length, ht] at h1
        rw [if_pos h1]
        cases o with
        | none => rfl
        | some v => exact absurd hi (wipe_some q).2
    rw [z σ' hl, z σ rfl]
  · rw [wipe_out hi, wipe_out hi]
    exact h i hi
end MP

namespace MP
open PySem PySem.Spec PyProof.Rows L2

section
variable {K : PySem.W.Frag} {m : List Addr} {H H' : Hp} {p : Addr} {o : HO} {S : Sto}
theorem hid_upd (h : H p = none) : hid (upd H p o) p = H := by
  funext b
  by_cases e : b = p
  · rw [e, hid_same, h]
  · rw [hid_ne e, upd_ne e]
theorem upd_hid (h : H p = some o) : upd (hid H p) p o = H := by
  funext b
  by_cases e : b = p
  · rw [e, upd_same, h]
  · rw [upd_ne e, hid_ne e]
theorem sup_hid : ∀ a o, hid H p a = some o → H a = some o := fun a o e => by
  have : a ≠ p := fun z => by rw [z, hid_same] at e; cases e
  rwa [hid_ne this] at e
end
/-- what lc_core asks, from the store's words -/
theorem comp_read {X : Cx} {li : LI} {ix : List Nat} {g : GT} {tt : LT} {te : LE} {σ : L2.St} {H : Hp} {m : List Addr} {ρ : Ev} {S : Sto} (x0 : SR X.K m H S) (er0 : ER X.K m H σ ρ) (hp : Hope X σ m H (compL li ix g tt te ρ S)) {Q : VK}
    (hQ : ∀ ys S2, compL li ix g tt te ρ S = .ok ys S2 → ∀ p vs m2 H2, Ext m H m2 H2 → SR X.K m2 H2 S2 → H2 p = none → VRs X.K m2 H2 vs ys → Q (.ref p) (upd H2 p (.lst vs))) :
    tLc (tIL X li) (tGL X.K ix g) (tHideT (tT0 X.K tt)) (tHide (tL0 X.K te)) ix σ H Q := by
  refine ⟨m, ρ, S, x0, er0, hope_seq hp, fun it S1 q1 J H1 m1 e1 x1 yl => ?_⟩
  unfold compL at hp hQ
  rw [q1, bind_ok] at hp hQ
  have hz := hope_if hp
  rw [if_pos hz] at hp hQ
  have er1 := (er0.ext e1 x0.muts).wipe ix
  intro D hD
  -- what holds ahead of turn i: so much is made, the rest gives the rest
  refine ⟨fun i k H => k + i = it.items.length ∧ ∃ (vs : List V) (acc : List MP.D) (m : List Addr) (S : Sto), H D = some (.lst vs) ∧ Ext m1 H1 m (hid H D) ∧ SR X.K m (hid H D) S ∧ VRs X.K m (hid H D) vs acc ∧ acc.length ≤ i ∧
      ∃ ys S2, compG it.chk g tt te (wipeE ρ ix) (it.items.drop i) S = .ok ys S2 ∧ compG it.chk g tt te (wipeE ρ ix) it.items S1 = .ok (acc ++ ys) S2, ⟨it.items.length, by simp, [], [], m1, S1, upd_same, ?_, ?_, .nil, Nat.zero_le _, ?_⟩, ?_⟩
  · rw [hid_upd hD]; exact Ext.refl
  · rw [hid_upd hD]; exact x1
  · cases q : compG it.chk g tt te (wipeE ρ ix) it.items S1 with
    | bad => rw [q] at hp; exact absurd rfl hp.1
    | ok ys S2 => exact ⟨ys, S2, by simpa using q, by simp⟩
    | exc C fs S2 =>
      exfalso
      have : ∀ (l : List MP.D) (S : Sto) C fs S2, compG it.chk g tt te (wipeE ρ ix) l S ≠ .exc C fs S2 := by
        intro l
        induction l with
        | nil =>
          intro S C fs S2 z
          dsimp only [compG] at z
          split at z <;> cases z
        | cons d ds ih =>
          intro S C fs S2 z
          dsimp only [compG] at z
          split at z
          · split at z
            · rename_i ρ1 _
              cases q : tt ρ1 S with
              | bad => rw [q] at z; cases z
              | exc _ _ _ => rw [q] at z; cases z
              | ok b S3 =>
                rw [q] at z
                dsimp only [noex, R.bind] at z
                split at z
                · cases q2 : te ρ1 S3 with
                  | bad => rw [q2] at z; cases z
                  | exc _ _ _ => rw [q2] at z; cases z
                  | ok y S4 =>
                    rw [q2] at z
                    dsimp only [noex, R.bind] at z
                    cases q3 : compG it.chk g tt te (wipeE ρ ix) ds S4 with
                    | bad => rw [q3] at z; cases z
                    | ok _ _ => rw [q3] at z; cases z
                    | exc C' fs' S' => exact ih _ _ _ _ q3
                · exact ih _ _ _ _ z
            · cases z
          · cases z
      exact this _ _ _ _ _ q
  · rintro i k H ⟨hk, vs, acc, m2, S2, hHD, e2, x2, r2, hacc, ys, S3, c1, c2⟩
    have er2 : ER X.K m2 (hid H D) (L2.wipe σ ix) (wipeE ρ ix) := er1.ext e2 x1.muts
    by_cases hi : i < it.items.length
    · have hd : it.items.drop i = it.items[i] :: it.items.drop (i + 1) := List.drop_eq_getElem_cons hi
      rw [hd] at c1
      dsimp only [compG] at c1
      split at c1
      · rename_i hchk
        obtain ⟨y1, _⟩ := yl m2 (hid H D) S2 H e2 x2 hchk sup_hid
        obtain ⟨go, yy⟩ := y1 i it.items[i] (List.getElem?_eq_getElem hi)
        split at c1
        · rename_i ρ1 hg1
          refine .inr ⟨go, fun H' => (k - 1) + (i + 1) = it.items.length ∧ ∃ (vs : List V) (acc : List MP.D) (m : List Addr) (S : Sto), H' D = some (.lst vs) ∧ Ext m1 H1 m (hid H' D) ∧ SR X.K m (hid H' D) S ∧ VRs X.K m (hid H' D) vs acc ∧ acc.length ≤ i + 1 ∧
            ∃ ys S2, compG it.chk g tt te (wipeE ρ ix) (it.items.drop (i + 1)) S = .ok ys S2 ∧ compG it.chk g tt te (wipeE ρ ix) it.items S1 = .ok (acc ++ ys) S2, fun H' z => ⟨k - 1, by omega, z⟩, fun v H' hy => ?_⟩
          -- the turn's heap, D hidden
          obtain ⟨w, e3, hD', x3, hall⟩ : VR X.K m2 (hid H' D) v it.items[i] ∧ Ext m2 (hid H D) m2 (hid H' D) ∧ H' D = some (.lst vs) ∧ SR X.K m2 (hid H' D) S2 ∧ ∀ a xs, hid H' D a = some (.tup xs) → H' a = some (.tup xs) := by
            rcases yy v H' hy with ⟨rfl, w⟩ | ⟨T, ws, ds, hT, rfl, rfl, ed, rw'⟩
            · exact ⟨w, Ext.refl, hHD, x2, fun a xs z => sup_hid a _ z⟩
            · have hTD : T ≠ D := fun z => by rw [z, hHD] at hT; cases hT
              have hTh : hid H D T = none := by rw [hid_ne hTD]; exact hT
              have eh : hid (upd H T (.tup ws)) D = upd (hid H D) T (.tup ws) := by
                funext b
                by_cases hb : b = D
                · rw [hb, hid_same, upd_ne hTD.symm, hid_same]
                · rw [hid_ne hb]
                  by_cases hb2 : b = T
                  · rw [hb2, upd_same, upd_same]
                  · rw [upd_ne hb2, upd_ne hb2, hid_ne hb]
              rw [eh]
              refine ⟨?_, Ext.fresh hTh, by rw [upd_ne hTD.symm]; exact hHD, x2.fresh hTh, fun a xs z => ?_⟩
              · rw [ed]
                exact .tup upd_same (rw'.ext (Ext.fresh hTh) x2.muts)
              · rw [← eh] at z
                exact sup_hid a _ z
          refine ⟨m2, hid H' D, wipeE ρ ix, it.items[i], ρ1, hall, w, er2.ext e3 x2.muts, (er2.len), hg1, fun σ2 er3 hl2 hl3 hj => ⟨wipe_eq hl3 (fun j hjx => ?_) |>.trans ?_, ?_⟩⟩
          · exact hj j hjx
          · -- wiped twice
            exact wipe_eq (wipe_length σ ix) fun j hj => wipe_out hj
          · refine ⟨D, vs, hD', m2, ρ1, S2, x3, er3, ?_⟩
            cases qt : tt ρ1 S2 with
            | bad => rw [qt] at c1; cases c1
            | exc _ _ _ => rw [qt] at c1; cases c1
            | ok b S4 =>
              rw [qt] at c1
              dsimp only [noex, R.bind] at c1
              refine ⟨b, S4, rfl, fun H4 m4 e4 x4 hn4 => ?_⟩
              have r4 := (r2.ext e3 x2.muts).ext e4 x3.muts
              cases b with
              | true =>
                rw [if_pos rfl] at c1
                refine iteT ?_
                refine ⟨D, vs, upd_same, m4, ρ1, S4, by rw [hid_upd hn4]; exact x4, by rw [hid_upd hn4]; exact er3.ext e4 x3.muts, ?_⟩
                cases qe : te ρ1 S4 with
                | bad => rw [qe] at c1; cases c1
                | exc _ _ _ => rw [qe] at c1; cases c1
                | ok y S5 =>
                  rw [qe] at c1
                  dsimp only [noex, R.bind] at c1
                  refine ⟨y, S5, rfl, fun v5 H5 qv5 hn5 => ?_⟩
                  rw [hid_upd hn4] at qv5
                  obtain ⟨m5, e5, x5, w5⟩ := qv5
                  have r5 := r4.ext e5 x4.muts
                  refine ⟨vs, upd_same, ?_, by omega, vs ++ [v5], acc ++ [y], m5, S5, upd_same, ?_, ?_, ?_, by simp; omega, ?_⟩
                  · rw [r5.length]
                    exact Nat.lt_of_le_of_lt hacc (Nat.lt_of_lt_of_le hi hz)
                  · rw [upd_upd, hid_upd hn5]; exact ((e2.trans e3).trans e4).trans e5
                  · rw [upd_upd, hid_upd hn5]; exact x5
                  · rw [upd_upd, hid_upd hn5]; exact r5.append (.cons w5 .nil)
                  · cases qr : compG it.chk g tt te (wipeE ρ ix) (it.items.drop (i + 1)) S5 with
                    | bad => rw [qr] at c1; cases c1
                    | exc _ _ _ => rw [qr] at c1; cases c1
                    | ok zs S6 =>
                      rw [qr] at c1
                      cases c1
                      exact ⟨zs, _, rfl, by rw [c2]; simp⟩
              | false =>
                rw [if_neg Bool.false_ne_true] at c1
                refine iteF ?_
                exact ⟨by omega, vs, acc, m4, S4, upd_same, by rw [hid_upd hn4]; exact (e2.trans e3).trans e4, by rw [hid_upd hn4]; exact x4, by rw [hid_upd hn4]; exact r4, by omega, ys, S3, c1, c2⟩
        · cases c1
      · cases c1
    · have hd : it.items.drop i = [] := List.drop_eq_nil_of_le (by omega)
      rw [hd] at c1
      dsimp only [compG] at c1
      split at c1
      · rename_i hchk
        cases c1
        obtain ⟨_, y2⟩ := yl m2 (hid H D) S2 H e2 x2 hchk sup_hid
        refine .inl ⟨y2 i (by omega), ?_⟩
        have := hQ _ _ c2 D vs m2 (hid H D) (e1.trans e2) x2 hid_same (by simpa using r2)
        rw [upd_hid hHD] at this
        exact this
      · cases c1
section
variable {X : Cx} {elt tg iter : Expr} {ifs : List Expr} {scope : Scope} {own : List (Str × Nat)} {pos : Pos} {li : LI} {g : GT} {tt : LT} {te : LE}
/-- the tests of a comprehension -/
structure PTsL (X : Cx) (ifs : List Expr) (l : LT) : Prop where
  pts : PTs X ifs (tT0 X.K l)
theorem ptsl_nil : PTsL X [] tYesL := ⟨⟨fun pins s σ H Q I ⟨m, ρ, S, x, er, b, S', q, k⟩ => by
  cases q
  exact wpAny_tests_nil ⟨H, I, k H m Ext.refl x⟩⟩⟩
theorem ptsl_one {c : Expr} {t : LT} (h : PTL X c t) : PTsL X [c] t := ⟨pts_one h.pt⟩
theorem pel_lc (hc : X.calm = true) (hN : X.N.Nodup) (hi : PIL X tg iter li) (ok : BlkOk X.N X.env.scope scope own)
    (hg : ∀ (s : Shared) (H : Hp) (C : Addr) (cl : List (Str × Addr)) (fp : List Addr), PGL (X.blk s H scope (compEnvC scope cl C X.env) fp) tg (own.map (·.2)) g) (ht : ∀ (s : Shared) (H : Hp) (C : Addr) (cl : List (Str × Addr)) (fp : List Addr), PTsL (X.blk s H scope (compEnvC scope cl C X.env) fp) ifs tt)
    (he : ∀ (s : Shared) (H : Hp) (C : Addr) (cl : List (Str × Addr)) (fp : List Addr), PEL (X.blk s H scope (compEnvC scope cl C X.env) fp) elt te) (hs : ∀ x, foldedSetIterable iter X.env x = pure x := by intro _; rfl) :
    PEL X (.ListComp elt [⟨tg, iter, ifs, 0⟩] scope pos) (lComp li (own.map (·.2)) g tt te) :=
  .of_pe (pe_lc (g := tGL X.K (own.map fun q : Str × Nat => q.2) g) (tt := tHideT (tT0 X.K tt)) (te := tHide (tL0 X.K te)) hc hN hi ok hg (fun s H C cl fp => pts_hide (ht s H C cl fp).pts) (fun s H C cl fp => pe_hide (he s H C cl fp).pe) hs) fun σ H m ρ S x er hp =>
    comp_read x er (hope_seq hp) fun ys S2 q p vs m2 H2 e x2 hn r => ⟨.lst ys, S2, by unfold lComp; rw [q]; rfl, m2, e.trans (Ext.fresh hn), x2.fresh hn, vr_newLst x2 hn r⟩
theorem pel_lcN (hc : X.calm = true) (hN : X.N.Nodup) (hi : PIL X tg iter li) (ok : BlkOk X.N X.env.scope scope own)
    (hg : ∀ (s : Shared) (H : Hp) (C : Addr) (cl : List (Str × Addr)) (fp : List Addr), PGL (X.blk s H scope (compEnvC scope cl C X.env) fp) tg (own.map (·.2)) g) (ht : ∀ (s : Shared) (H : Hp) (C : Addr) (cl : List (Str × Addr)) (fp : List Addr), PTsL (X.blk s H scope (compEnvC scope cl C X.env) fp) ifs tt)
    (he : ∀ (s : Shared) (H : Hp) (C : Addr) (cl : List (Str × Addr)) (fp : List Addr), PEL (X.blk s H scope (compEnvC scope cl C X.env) fp) elt te) (hs : ∀ x, foldedSetIterable iter X.env x = pure x := by intro _; rfl) :
    PEL X (.ListComp elt [⟨tg, iter, ifs, 0⟩] scope pos) (lCompN li (own.map (·.2)) g tt te) :=
  .of_pe (pe_lc (g := tGL X.K (own.map fun q : Str × Nat => q.2) g) (tt := tHideT (tT0 X.K tt)) (te := tHide (tL0 X.K te)) hc hN hi ok hg (fun s H C cl fp => pts_hide (ht s H C cl fp).pts) (fun s H C cl fp => pe_hide (he s H C cl fp).pe) hs) fun σ H m ρ S x er hp =>
    comp_read x er (hope_seq hp) fun ys S2 q p vs m2 H2 e x2 hn r => ⟨.ref S2.length, S2 ++ [.lst ys], by unfold lCompN; rw [q]; rfl, (qv_newL x2 hn r).left e⟩
/-- name = [..], the name a local -/
theorem psl_setLc {i : Nat} {y : Str} {py spos : Pos} {lv : LE} (hN : X.N.Nodup) (hyl : X.env.scope.names.lookup y = some .local) (hsw : swapsWith (.ListComp elt [⟨tg, iter, ifs, 0⟩] scope pos) (some (.Name y py)) spos.line X.env = pure true) (hc : X.calm = true) (hi : PIL X tg iter li) (ok : BlkOk X.N X.env.scope scope own)
    (hlv : lv = lComp li (own.map (·.2)) g tt te ∨ lv = lCompN li (own.map (·.2)) g tt te)
    (hg : ∀ (s : Shared) (H : Hp) (C : Addr) (cl : List (Str × Addr)) (fp : List Addr), PGL (X.blk s H scope (compEnvC scope cl C X.env) fp) tg (own.map (·.2)) g) (ht : ∀ (s : Shared) (H : Hp) (C : Addr) (cl : List (Str × Addr)) (fp : List Addr), PTsL (X.blk s H scope (compEnvC scope cl C X.env) fp) ifs tt)
    (he : ∀ (s : Shared) (H : Hp) (C : Addr) (cl : List (Str × Addr)) (fp : List Addr), PEL (X.blk s H scope (compEnvC scope cl C X.env) fp) elt te) (hy : X.N[i]? = some y := by rfl) (hs : ∀ x, foldedSetIterable iter X.env x = pure x := by intro _; rfl) :
    PSL X (.Assign [.Name y py] (.ListComp elt [⟨tg, iter, ifs, 0⟩] scope pos) spos) (lSet i lv) := by
  refine ps_imp (ps_setLc (g := tGL X.K (own.map fun q : Str × Nat => q.2) g) (tt := tHideT (tT0 X.K tt)) (te := tHide (tL0 X.K te)) hc hN hy hyl hsw hi ok hg (fun s H C cl fp => pts_hide (ht s H C cl fp).pts) (fun s H C cl fp => pe_hide (he s H C cl fp).pe) hs) fun D σ H ⟨m, ρ, S, x, er, hl, h⟩ => ?_
  have h' : HS X D m H (liftX ρ (lv ρ S) fun d S1 => .ok (.nx (ρ.set i (some d))) S1) := h
  have hp := HS.hope h' er hl x
  have hpc : Hope X σ m H (compL li (own.map (·.2)) g tt te ρ S) := by
    rcases hlv with z | z <;> (rw [z] at hp; exact hope_seq hp)
  refine comp_read x er hpc fun ys S2 q p vs m2 H2 e x2 hn r => ?_
  rcases hlv with z | z
  · have q' : lv ρ S = .ok (.lst ys) S2 := by rw [z]; unfold lComp; rw [q]; rfl
    rw [q'] at h'
    have e' := e.trans (Ext.fresh (o := .lst vs) hn)
    exact h'.nx _ _ rfl _ _ ⟨m2, e', x2.fresh hn, (er.ext e' x.muts).set (vr_newLst x2 hn r), by simp [hl]⟩
  · have q' : lv ρ S = .ok (.ref S2.length) (S2 ++ [.lst ys]) := by rw [z]; unfold lCompN; rw [q]; rfl
    rw [q'] at h'
    obtain ⟨m3, e3, x3, w3⟩ := qv_newL x2 hn r
    have e' := e.trans e3
    exact h'.nx _ _ rfl _ _ ⟨m3, e', x3, (er.ext e' x.muts).set w3, by simp [hl]⟩
end
end MP

namespace MP
open PySem PySem.Spec PyProof.Rows L2

section
variable {K : PySem.W.Frag} {m : List Addr} {H : Hp} {S : Sto}
theorem SR.write (x : SR K m H S) {i : Nat} {a : Addr} {o' : HO} {ob' : O} (hi : m[i]? = some a) (r : Ext m H m (upd H a o') → OR K m (upd H a o') a ob') : Ext m H m (upd H a o') ∧ SR K m (upd H a o') (S.set i ob') := by
  have hm : a ∈ m := List.mem_iff_getElem?.mpr ⟨i, hi⟩
  have e : Ext m H m (upd H a o') := ⟨⟨[], by simp⟩, fun b h => .inl h, fun b u n q => by rw [upd_ne (fun z : b = a => n (by rw [z]; exact hm))]; exact q⟩
  refine ⟨e, x.nd, by simp [x.len], fun j b u h1 h2 => ?_⟩
  by_cases hj : i = j
  · subst hj
    rw [hi] at h1
    cases h1
    have hl : i < S.length := x.len ▸ (List.getElem?_eq_some_iff.mp hi).1
    rw [List.getElem?_set_self hl] at h2
    cases h2
    exact r e
  · rw [List.getElem?_set_ne hj] at h2
    exact (x.at_ j b u h1 h2).ext e x.muts (upd_ne fun z => hj (nodup_get x.nd hi (z ▸ h1)))
theorem VR.ref_at (x : SR K m H S) {v : V} {i : Nat} {ob : O} (r : VR K m H v (.ref i)) (q : S[i]? = some ob) : ∃ a, v = .ref a ∧ m[i]? = some a ∧ OR K m H a ob := by
  cases r with
  | @ref i a h => exact ⟨a, rfl, h, x.at_ i a ob h q⟩
end
def putD (f : Str) (v : D) : List (Str × D) → List (Str × D)
  | [] => [(f, v)]
  | (g, x) :: r => if g = f then (g, v) :: r else (g, x) :: putD f v r
theorem VFs.put {K : PySem.W.Frag} {m : List Addr} {H : Hp} {f : Str} {v : V} {d : D} (h : VR K m H v d) : ∀ {fs : List (Str × V)} {gs : List (Str × D)}, VFs K m H fs gs → VFs K m H (putF f v fs) (putD f d gs)
  | _, _, .nil => .cons h .nil
  | _, _, @VFs.cons _ _ _ g w e vs ds q r => by
    unfold putF putD
    by_cases z : g = f
    · rw [if_pos z, if_pos z]; exact .cons h r
    · rw [if_neg z, if_neg z]; exact .cons q (VFs.put h r)
theorem VFs.length {K : PySem.W.Frag} {m : List Addr} {H : Hp} {fs : List (Str × V)} {gs : List (Str × D)} : VFs K m H fs gs → fs.length = gs.length
  | .nil => rfl
  | .cons _ r => by simp [r.length]
section
variable {X : Cx} {e o i c : Expr} {le lo li : LE} {t : LA} {pos pos' : Pos} {x y f : Str} {C : Addr}
/-- targets = e -/
def lAsg (g : GT) (le : LE) : LS := fun ρ S => liftX ρ (le ρ S) fun d S1 => match g d ρ with
  | some ρ1 => .ok (.nx ρ1) S1
  | none => .bad
theorem psl_asg {tg : Expr} {ix : List Nat} {g : GT} (he : PEL X e le) (hg : PGL X tg ix g) (hs : swapsWithSole [tg] e pos.line X.env = pure false := by rfl) (hw : swappedStores [tg] e X.env = pure none := by rfl)
    (h1 : (assignEach [tg] X.env).map (·.2) = [assign tg X.env] := by rfl) : PSL X (.Assign [tg] e pos) (lAsg g le) := by
  refine ⟨fun pins s σ H D I ⟨m, ρ, S, x, er, hl, h⟩ => ?_⟩
  refine wpAny_Assign_stores (expr_in he I x er hl h fun d S1 q v u s1 H1 m1 I1 rv e1 x1 w er1 h2 => ?_) hs hw
  rw [h1]
  cases hgd : g d ρ with
  | none => rw [hgd] at h2; obtain ⟨fl, S', q⟩ := h2.ok; cases q
  | some ρ1 =>
    rw [hgd] at h2
    exact thn (hg.run pins s1 σ H1 v u (fun σ' H' => D.nx σ' H') I1 rv ⟨m1, H1, ρ, d, ρ1, fun _ _ z => z, w, er1, hl, hgd, fun σ' er' hl' _ _ => h2.nx ρ1 S1 rfl σ' H1 (sv_same x1 er' hl')⟩) fun _ s2 q => q
/-- a, b = e1, e2 with plain local names -/
def tAX (X : Cx) (t : LA) : TA := fun σ H Q => ∃ m ρ S, SR X.K m H S ∧ ER X.K m H σ ρ ∧ Hope X σ m H (t ρ S) ∧ ∀ ds S', t ρ S = .ok ds S' → ∀ vs H' m', Ext m H m' H' → SR X.K m' H' S' → VRs X.K m' H' vs ds → Q vs H'
theorem PAL.pa {es : List Expr} (h : PAL X es t) : PA X es (tAX X t) := ⟨fun pos pins s σ H Q I ⟨m, ρ, S, x, er, hp, k⟩ =>
  thn (h.run pos pins s σ H m ρ S I x er hp) fun us s' ⟨ds, S', vs, H', m', q, I', rv, e', x', w⟩ => ⟨vs, H', I', rv, k ds S' q vs H' m' e' x' w⟩⟩
def lPar (i j : Nat) (t : LA) : LS := fun ρ S => liftX ρ (t ρ S) fun ds S1 => match ds with
  | [a, b] => .ok (.nx ((ρ.set i (some a)).set j (some b))) S1
  | _ => .bad
theorem psl_par {i j : Nat} {a b : Expr} {px py pt : Pos} {kt k2 : Nat} {pt2 : Pos} (hc : X.calm = true) (hN : X.N.Nodup) (ha : PAL X [a, b] t) (hi : X.N[i]? = some x := by rfl) (hj : X.N[j]? = some y := by rfl) (hij : i ≠ j := by decide)
    (hx : X.env.scope.names.lookup x = some .local := by rfl) (hy : X.env.scope.names.lookup y = some .local := by rfl)
    (hw : swappedStores [.Tuple [.Name x px, .Name y py] kt pt] (.Tuple [a, b] k2 pt2) X.env = pure (some [x, y]) := by rfl)
    (hs : swapsWithSole [.Tuple [.Name x px, .Name y py] kt pt] (.Tuple [a, b] k2 pt2) pos.line X.env = pure false := by rfl) :
    PSL X (.Assign [.Tuple [.Name x px, .Name y py] kt pt] (.Tuple [a, b] k2 pt2) pos) (lPar i j t) := by
  refine ps_imp (ps_par hc hN hi hj hij hx hy ha.pa hw hs) fun D σ H ⟨m, ρ, S, x0, er, hl, h⟩ => ?_
  have h' : HS X D m H (liftX ρ (t ρ S) fun ds S1 => match ds with
    | [a, b] => .ok (.nx ((ρ.set i (some a)).set j (some b))) S1
    | _ => .bad) := h
  refine ⟨m, ρ, S, x0, er, HS.hope h' er hl x0, fun ds S1 q vs H1 m1 e1 x1 w => ?_⟩
  rw [q] at h'
  have h2 := HS.ext h' e1
  cases w with
  | nil => obtain ⟨fl, S', q⟩ := h2.ok; cases q
  | cons w1 w2 =>
    cases w2 with
    | nil => obtain ⟨fl, S', q⟩ := h2.ok; cases q
    | cons w2 w3 =>
      cases w3 with
      | cons _ _ => obtain ⟨fl, S', q⟩ := h2.ok; cases q
      | nil =>
        have er1 := er.ext e1 x0.muts
        exact ⟨_, _, rfl, h2.nx _ S1 rfl _ H1 (sv_same x1 ((er1.set w1).set w2) (by simp [hl]))⟩
/-- o.f = e, o an object of the store -/
def stFld (C : Addr) (f : Str) (S : Sto) (r d : D) : Option Sto := match r with
  | .ref i => match S[i]? with
    | some (.ins C' fs) => if C' = C ∧ fs.length < 1000 then some (S.set i (.ins C (putD f d fs))) else none
    | _ => none
  | _ => none
def liftS (o : Option Sto) (ρ : Ev) : R Fl := match o with
  | some S => .ok (.nx ρ) S
  | none => .bad
def lStF (C : Addr) (f : Str) (lo le : LE) : LS := fun ρ S => liftX ρ (le ρ S) fun d S1 => liftX ρ (lo ρ S1) fun r S2 => liftS (stFld C f S2 r d) ρ
theorem psl_fld (cl : Cls X.K C) (na : NoAttr X.K C f) (ho : PEL X o lo) (he : PEL X e le) (hs : swapsWith e (some (.Attribute o f pos')) pos.line X.env = pure false := by rfl) : PSL X (.Assign [.Attribute o f pos'] e pos) (lStF C f lo le) := by
  refine ⟨fun pins s σ H D I ⟨m, ρ, S, x, er, hl, h⟩ => ?_⟩
  refine plainObj_wpAny_Assign_Attribute (expr_in he I x er hl h fun d S1 q v u s1 H1 m1 I1 rv e1 x1 w er1 h1 => expr_in ho I1 x1 er1 hl h1 fun r S2 q2 v2 u2 s2 H2 m2 I2 rv2 e2 x2 w2 er2 h2 => ?_) hs
  cases q3 : stFld C f S2 r d with
  | none => rw [q3] at h2; obtain ⟨fl, S', q⟩ := h2.ok; cases q
  | some S3 =>
    rw [q3] at h2
    unfold stFld at q3
    split at q3
    · rename_i i
      split at q3
      · rename_i C' fs q4
        split at q3
        · rename_i hz
          obtain ⟨hC, hz⟩ := hz
          subst hC
          cases q3
          obtain ⟨a, rfl, ha, orr⟩ := VR.ref_at x2 w2 q4
          obtain rfl : u2 = Value.ref a := rv2
          cases orr with
          | @ins _ dx fs' gs hh rr =>
            refine setattr_ok I2 hh cl na (by rw [rr.length]; exact hz) rv fun s3 I3 => ?_
            obtain ⟨e3, x3⟩ := x2.write (o' := .ins C' dx (putF f v fs')) (ob' := .ins C' (putD f d fs)) ha fun e => .ins upd_same ((rr.put (w.ext e2 x1.muts)).ext e x2.muts)
            exact ⟨σ, _, I3, h2.nx ρ _ rfl σ _ ⟨m2, e3, x3, er2.ext e3 x2.muts, hl⟩⟩
        · cases q3
      · cases q3
    · cases q3
/-- o[i] = e -/
structure PSetL (X : Cx) (g : Sto → D → D → D → Option Sto) : Prop where
  run : ∀ (pins : List (Addr × Obj)) (s : Shared) (σ : L2.St) (H : Hp) (m : List Addr) (S S' : Sto) (o i v : V) (d1 d2 d3 : D) (ov iv u : Value), Inv X pins σ H s → SR X.K m H S → VR X.K m H o d1 → VR X.K m H i d2 → VR X.K m H v d3 → RelV o ov → RelV i iv → RelV v u → g S d1 d2 d3 = some S' →
    wpAny (model X.prog X.w) X.A (setItem ov iv u) (fun _ s' => ∃ H' m', Inv X pins σ H' s' ∧ Ext m H m' H' ∧ SR X.K m' H' S') X.xe s
def stSeq (S : Sto) (r i d : D) : Option Sto := match r, i with
  | .ref j, .int k => match S[j]? with
    | some (.lst xs) => (ixN xs.length k).map fun n => S.set j (.lst (xs.set n d))
    | _ => none
  | _, _ => none
theorem psetl_seq : PSetL X stSeq := ⟨fun pins s σ H m S S' o i v d1 d2 d3 ov iv u I x r1 r2 r3 e1 e2 e3 q => by
  unfold stSeq at q
  split at q
  · rename_i j k
    split at q
    · rename_i xs q1
      cases q2 : ixN xs.length k with
      | none => rw [q2] at q; cases q
      | some n =>
        rw [q2] at q
        cases q
        obtain ⟨a, rfl, ha, orr⟩ := VR.ref_at x r1 q1
        cases r2
        cases orr with
        | @lst vs _ hh rr =>
          obtain ⟨z1, z2⟩ := x.write (o' := .lst (vs.set n v)) (ob' := .lst (xs.set n d3)) ha fun e => .lst upd_same ((rr.set r3 n).ext e x.muts)
          exact thn (set_list pins s σ H _ _ v ov iv u (fun H' => H' = upd H a (.lst (vs.set n v))) I e1 e2 e3 ⟨a, vs, k, n, rfl, rfl, hh, by rw [rr.length]; exact q2, rfl⟩) fun _ s' ⟨H', I', eH⟩ => by
            subst eH
            exact ⟨_, m, I', z1, z2⟩
    · cases q
  · cases q⟩
def lStS (g : Sto → D → D → D → Option Sto) (lo li le : LE) : LS := fun ρ S => liftX ρ (le ρ S) fun d S1 => liftX ρ (lo ρ S1) fun r S2 => liftX ρ (li ρ S2) fun k S3 => liftS (g S3 r k d) ρ
theorem psl_sub {g : Sto → D → D → D → Option Sto} (hg : PSetL X g) (ho : PEL X o lo) (hi : PEL X i li) (he : PEL X e le) (hs : swapsWith e (some (.Subscript o i pos')) pos.line X.env = pure false := by rfl) : PSL X (.Assign [.Subscript o i pos'] e pos) (lStS g lo li le) := by
  refine ⟨fun pins s σ H D I ⟨m, ρ, S, x, er, hl, h⟩ => ?_⟩
  refine wpAny_Assign_Subscript (expr_in he I x er hl h fun d S1 q v u s1 H1 m1 I1 rv e1 x1 w er1 h1 => expr_in ho I1 x1 er1 hl h1 fun r S2 q2 v2 u2 s2 H2 m2 I2 rv2 e2 x2 w2 er2 h2 => expr_in hi I2 x2 er2 hl h2 fun k S3 q3 v3 u3 s3 H3 m3 I3 rv3 e3 x3 w3 er3 h3 => ?_) hs
  cases q4 : g S3 r k d with
  | none => rw [q4] at h3; obtain ⟨fl, S', q⟩ := h3.ok; cases q
  | some S4 =>
    rw [q4] at h3
    exact thn (hg.run pins s3 σ H3 m3 S3 S4 v2 v3 v r k d u2 u3 u I3 x3 (w2.ext e3 x2.muts) w3 ((w.ext e2 x1.muts).ext e3 x2.muts) rv2 rv3 rv q4) fun _ s4 ⟨H4, m4, I4, e4, x4⟩ => ⟨σ, H4, I4, h3.nx ρ S4 rfl σ H4 ⟨m4, e4, x4, er3.ext e4 x3.muts, hl⟩⟩
/-- name op= e -/
def lAug (i : Nat) (g : G2) (le : LE) : LS := fun ρ S => match ρ[i]? with
  | some (some d0) => liftX ρ (le ρ S) fun d S1 => match g S1 d0 d with
    | some r => .ok (.nx (ρ.set i (some r))) S1
    | none => .bad
  | _ => .bad
theorem psl_aug {i : Nat} {op : Operator} {g : G2} (hN : X.N.Nodup) (ho : OpL X (inplaceOp op) g) (he : PEL X e le) (hi : X.N[i]? = some x := by rfl) (hx : Loc X.env.scope x := by first | exact .inl rfl | exact .inr rfl) (hf : X.fn x = true ∨ X.env.scope.names.lookup x = some .local := by first | exact .inl rfl | exact .inr rfl | assumption) :
    PSL X (.AugAssign (.Name x pos') op e pos) (lAug i g le) := by
  refine ⟨fun pins s σ H D I ⟨m, ρ, S, x0, er, hl, h⟩ => ?_⟩
  have h0 : HS X D m H (lAug i g le ρ S) := h
  unfold lAug at h0
  split at h0
  · rename_i d0 q0
    obtain ⟨v, e1, r0⟩ := er.at_ i d0 q0
    obtain ⟨mm, hn, hlk⟩ := I.loc
    have vis : Vis X.env.scope x := by rcases hx with k | k; exact .inl k; exact .inr (.inl k)
    obtain ⟨u, r, l⟩ := hlk i x v hi e1 vis
    refine wpAny_AugAssign_Name ?_
    have go : wpAny (model X.prog X.w) X.A (eval e X.env) (fun w s₂ => wpAny (model X.prog X.w) X.A (inplaceOp op u w) (fun r s₃ => wpAny (model X.prog X.w) X.A (storeName X.env x r) (fun _ => SP X pins D .next) X.xe s₃) X.xe s₂) X.xe s := by
      refine expr_in he I x0 er hl h0 fun d S1 q v2 u2 s1 H1 m1 I1 rv e2 x1 w er1 h1 => ?_
      cases hg : g S1 d0 d with
      | none => rw [hg] at h1; obtain ⟨fl, S', q⟩ := h1.ok; cases q
      | some rd =>
        rw [hg] at h1
        refine thn (ho.run pins s1 σ H1 m1 S1 v v2 d0 d rd u u2 I1 x1 (r0.ext e2 x0.muts) w r rv hg) fun z s2 ⟨v3, H3, m3, I3, rv3, e3, x3, w3⟩ => ?_
        exact store_ok I3 hN hi hx rv3 (fun s4 I4 => ⟨_, H3, I4, h1.nx _ S1 rfl _ H3 ⟨m3, e3, x3, (er1.ext e3 x1.muts).set w3, by simp [hl]⟩⟩) hf
    rcases l with ⟨hk, hm⟩ | ⟨hk, c, hc, hcell⟩
    · exact wpAny_loadName_local I.ok.kind hk hn hm go
    · rcases hk with hk | hk
      · exact wpAny_loadName_cell I.ok.kind hk hc hcell go
      · rcases hx with k | k
        · have : X.env.scope.names.lookup x = some .free := hk
          rw [k] at this; cases this
        · have : X.env.scope.names.lookup x = some .free := hk
          rw [k] at this; cases this
  · obtain ⟨fl, S', q⟩ := h0.ok; cases q
end

/-! ### a def keeps its promise -/
def fin : R Fl → R D
  | .ok (.nx _) S => .ok .non S
  | .ok (.rt d) S => .ok d S
  | .ok (.ex C fs _) S => .exc C fs S
  | _ => .bad
def bodyF (n : Nat) (lb : LS) : F := fun ds S => fin (lb (ds.map some ++ List.replicate (n - ds.length) none) S)
theorem er_start {K : PySem.W.Frag} {m : List Addr} {H : Hp} {vs : List V} {ds : List D} {n : Nat} (r : VRs K m H vs ds) : ER K m H (vs.map some ++ List.replicate (n - vs.length) none) (ds.map some ++ List.replicate (n - ds.length) none) := by
  refine ⟨fun i d h => ?_, by simp [r.length]⟩
  have hi : i < ds.length := by
    by_cases z : i < ds.length
    · exact z
    · rw [List.getElem?_append_right (by simp; omega)] at h
      obtain ⟨_, h2⟩ := List.getElem?_eq_some_iff.mp h
      simp at h2
  rw [List.getElem?_append_left (by simpa using hi), List.getElem?_map] at h
  cases q : ds[i]? with
  | none => rw [q] at h; cases h
  | some d' =>
    rw [q] at h
    cases h
    obtain ⟨v, h1, h2⟩ := r.getr q
    refine ⟨v, ?_, h2⟩
    rw [List.getElem?_append_left (by rw [List.length_map, r.length]; exact hi), List.getElem?_map, h1]
    rfl
section
variable {P : Program} {w : World} {K : PySem.W.Frag} {mg : Str → Option Value} {base : Heap}
abbrev cxL (P : Program) (w : World) (K : PySem.W.Frag) (mg : Str → Option Value) (base : Heap) (N : List Str) (qual : Str) (sc : Scope) (f : Addr) (cdv : Value) (A : Around) (outer : List Env) (s : Shared) (H : Hp) (E : XK) : Cx := cxOf (L2.CX P w) P w K mg base N qual sc f cdv A outer s H E
theorem Fun.okL {x qual : Str} {st : Stmt} {f : Addr} {fd : FuncData} {N ps : List Str} {k : Nat} {lb : LS} (Fn : Fun K x qual st f fd) (S : FnScope N ps (defScope st))
    (hb : ∀ (cdv : Value) (A : Around) (outer : List Env) (s : Shared) (H : Hp) (E : XK), Room k (A.deeper (envOfC qual (defScope st) s.heap.objs.size f cdv)) → PSsL (cxL P w K mg base N qual (defScope st) f cdv A outer s H E) (defBody st) lb) :
    FnL P w K mg base (k + 1) f fd ps (bodyF N.length lb) := by
  refine Fn.okX S (fun vs H Q E h => h.1) fun cdv A outer s H vs Q E hr h => ⟨_, hb cdv A outer s H E hr, ?_⟩
  obtain ⟨hl, m, S0, ds, x0, r, nb, q1, q2⟩ := h
  refine ⟨m, ds.map some ++ List.replicate (N.length - ds.length) none, S0, x0, ?_, ?_, ?_⟩
  · exact er_start r
  · simp [L2.start, r.length]
  · have hB : ∀ a, bodyF N.length lb ds S0 = a → fin (lb (ds.map some ++ List.replicate (N.length - ds.length) none) S0) = a := fun a h => h
    generalize hA : lb (ds.map some ++ List.replicate (N.length - ds.length) none) S0 = A0 at hB
    have hb0 : bodyF N.length lb ds S0 = fin A0 := by unfold bodyF; rw [hA]
    rw [hb0] at nb q1 q2
    refine ⟨?_, fun ρ' S' e σ' H' ⟨m', e', x', er', _⟩ => ?_, fun d S' e v H' z => ?_, fun ρ' S' e => ?_, fun ρ' S' e => ?_, fun C fs ρ' S' e u s' z => ?_⟩
    · cases A0 with
      | bad => exact absurd rfl nb
      | exc C fs S' => exact absurd rfl nb
      | ok fl S' => exact ⟨fl, S', rfl⟩
    · subst e
      exact q1 .non S' rfl .non H' ⟨m', e', x', .non⟩
    · subst e
      exact q1 d S' rfl v H' z
    · subst e
      exact absurd rfl nb
    · subst e
      exact absurd rfl nb
    · subst e
      refine takes_of (E := E) rfl rfl rfl rfl u s' (XE.imp z fun cls d σ' H' w => ?_)
      obtain ⟨w1, dd, vs', m', w2, w3, w4, w5, w6⟩ := w
      exact q2 C fs S' rfl cls d H' ⟨w1, dd, vs', m', w2, w3, w4, w5, w6.1⟩
end
end MP

namespace MP
open PySem PySem.Spec PyProof.Rows L2

section
variable {X : Cx}
/-! ### ints -/
def gSub : G2 := g2I fun i j => some (.int (i - j))
theorem opl_sub : OpL X (binaryOp .Sub) gSub := opl_int0 op_sub fun i j _ _ _ => .int _
def gMulI : G2 := g2I fun i j => if i.natAbs.log2 + j.natAbs.log2 < 1000000 then some (.int (i * j)) else none
theorem opl_mulI : OpL X (binaryOp .Mult) gMulI := opl_int op_mulW fun i j d e => by
  split at e
  · cases e; exact ⟨‹_›, fun _ _ _ => .int _⟩
  · cases e
def gDiv : G2 := g2I fun i j => if 0 < j ∧ j.natAbs.log2 < 9000 then some (.int (i / j)) else none
theorem opl_div : OpL X (binaryOp .FloorDiv) gDiv := opl_int op_fdivW fun i j d e => by
  split at e
  · cases e; exact ⟨‹_›, fun _ _ _ => .int _⟩
  · cases e
def gMod : G2 := g2I fun i j => if 0 < j then some (.int (i % j)) else none
theorem opl_mod : OpL X (binaryOp .Mod) gMod := opl_int op_mod fun i j d e => by
  split at e
  · cases e; exact ⟨‹_›, fun _ _ _ => .int _⟩
  · cases e
def gPow : G2 := g2I fun i j => if 0 ≤ j ∧ j ≤ 1000000 ∧ i.natAbs < 2 ^ 64 then some (.int (i ^ j.toNat)) else none
theorem opl_pow : OpL X (binaryOp .Pow) gPow := opl_int op_pow fun i j d e => by
  split at e
  · cases e; exact ⟨‹_›, fun _ _ _ => .int _⟩
  · cases e
def gIAdd : G2 := g2I fun i j => some (.int (i + j))
def gISub : G2 := g2I fun i j => some (.int (i - j))
theorem opl_iadd : OpL X (inplaceOp .Add) gIAdd := opl_int0 iop_add fun i j _ _ _ => .int _
theorem opl_isub : OpL X (inplaceOp .Sub) gISub := opl_int0 iop_sub fun i j _ _ _ => .int _
def gLtI : G2 := g2I fun i j => some (.bl (decide (i < j)))
def gLeI : G2 := g2I fun i j => some (.bl (decide (i ≤ j)))
def gGtI : G2 := g2I fun i j => some (.bl (decide (j < i)))
def gGeI : G2 := g2I fun i j => some (.bl (decide (j ≤ i)))
theorem opl_ltI : OpL X (compareOp .Lt) gLtI := opl_int0 op_lt fun i j _ _ _ => .bl _
theorem opl_leI : OpL X (compareOp .LtE) gLeI := opl_int0 op_le fun i j _ _ _ => .bl _
theorem opl_gtI : OpL X (compareOp .Gt) gGtI := opl_int0 op_gt fun i j _ _ _ => .bl _
theorem opl_geI : OpL X (compareOp .GtE) gGeI := opl_int0 op_ge fun i j _ _ _ => .bl _
def gLtS : G2 := g2S fun i j => some (.bl (decide (i.cps.toList < j.cps.toList)))
theorem opl_ltS : OpL X (compareOp .Lt) gLtS := .of op_lt_str fun H m S x y dx dy d q rx ry e => by
  obtain ⟨i, j, e1, e2, e3⟩ := g2S_inv e
  cases e3
  exact ⟨i, j, vw_str rx e1, vw_str ry e2, qv_same q (.bl _)⟩

/-! ### == of data -/
mutual
def toPD : D → Option PyData
  | .non => some .none
  | .bl b => some (.bool b)
  | .int i => some (.int i)
  | .str s => some (.str s)
  | .tup xs => (toPDs xs).map .tuple
  | .lst xs => (toPDs xs).map .list
  | _ => none
def toPDs : List D → Option (List PyData)
  | [] => some []
  | x :: xs => (toPD x).bind fun a => (toPDs xs).map fun b => a :: b
end
section
variable {K : PySem.W.Frag} {m : List Addr} {H : Hp}
mutual
theorem VR.dp {v : V} {d : D} {p : PyData} : VR K m H v d → toPD d = some p → Dp K H v p
  | .non, e => by simp only [toPD] at e; cases e; exact .non
  | .bl b, e => by simp only [toPD] at e; cases e; exact .bl b
  | .int b, e => by simp only [toPD] at e; cases e; exact .int b
  | .str b, e => by simp only [toPD] at e; cases e; exact .str b
  | @VR.tup _ _ _ a vs ds h r, e => by
    simp only [toPD] at e
    cases q : toPDs ds with
    | none => rw [q] at e; cases e
    | some ps => rw [q] at e; cases e; exact .tup (SqT.of h) (r.dps q)
  | @VR.lst _ _ _ a vs ds n h r, e => by
    simp only [toPD] at e
    cases q : toPDs ds with
    | none => rw [q] at e; cases e
    | some ps => rw [q] at e; cases e; exact .lst (.inl h) (r.dps q)
  | @VR.lstK _ _ _ a vs ds o its n hk h1 h2 h3 h4 h5 r, e => by
    simp only [toPD] at e
    cases q : toPDs ds with
    | none => rw [q] at e; cases e
    | some ps => rw [q] at e; cases e; exact .lst (.inr ⟨o, its, n, hk, h1, h2, h3, h4, h5⟩) (r.dps q)
  | .dct _ _ _, e => by simp only [toPD] at e; cases e
  | .dctT _ _ _, e => by simp only [toPD] at e; cases e
  | .obj _ _ _, e => by simp only [toPD] at e; cases e
  | .ref _, e => by simp only [toPD] at e; cases e
theorem VRs.dps {v : List V} {d : List D} {p : List PyData} : VRs K m H v d → toPDs d = some p → DpAll K H v p
  | .nil, e => by simp only [toPDs] at e; cases e; exact .nil
  | @VRs.cons _ _ _ v d vs ds h r, e => by
    simp only [toPDs] at e
    cases q : toPD d with
    | none => rw [q] at e; cases e
    | some a =>
      rw [q] at e
      cases q2 : toPDs ds with
      | none => rw [q2] at e; cases e
      | some b => rw [q2] at e; cases e; exact .cons (h.dp q) (r.dps q2)
end
/-- a place of the store is read one deep -/
theorem VR.dpv {S : Sto} (x : SR K m H S) {v : V} {d : D} {p : PyData} (r : VR K m H v d) (e : toPD (vw S d) = some p) : Dp K H v p := by
  cases r with
  | @ref i a h =>
    dsimp only [vw] at e
    cases q : S[i]? with
    | none => rw [q] at e; simp only [toPD] at e; cases e
    | some ob =>
      rw [q] at e
      have z := x.at_ i a ob h q
      cases z with
      | @lst vs ds hh rr =>
        simp only [toPD] at e
        cases q2 : toPDs ds with
        | none => rw [q2] at e; cases e
        | some ps => rw [q2] at e; cases e; exact .lst (SqL.of hh) (rr.dps q2)
      | dct _ _ => simp only [toPD] at e; cases e
      | dctT _ _ => simp only [toPD] at e; cases e
      | ins _ _ => simp only [toPD] at e; cases e
  | non => exact VR.dp (m := m) .non e
  | bl b => exact VR.dp (m := m) (.bl b) e
  | int b => exact VR.dp (m := m) (.int b) e
  | str b => exact VR.dp (m := m) (.str b) e
  | tup h r => exact VR.dp (m := m) (.tup h r) e
  | lst n h r => exact VR.dp (.lst n h r) e
  | lstK hk h1 h2 h3 h4 h5 r => exact VR.dp (m := m) (.lstK hk h1 h2 h3 h4 h5 r) e
  | dct n h r => exact VR.dp (.dct n h r) e
  | dctT n h r => exact VR.dp (.dctT n h r) e
  | obj n h r => exact VR.dp (.obj n h r) e
end
/-- plain things that are told apart at once -/
def eqS : D → D → Option Bool
  | .int i, .int j => some (decide (i = j))
  | .str i, .str j => some (decide (i = j))
  | .bl i, .bl j => some (decide (i = j))
  | .non, .non => some true
  | .non, .int _ | .int _, .non | .non, .str _ | .str _, .non | .non, .bl _ | .bl _, .non => some false
  | .int _, .str _ | .str _, .int _ | .bl _, .str _ | .str _, .bl _ => some false
  | _, _ => none
def eqP (S : Sto) (x y : D) : Option Bool := (toPD (vw S x)).bind fun a => (toPD (vw S y)).bind fun b => if SeqAt.shaped a = true ∧ SeqAt.shaped b = true then some (PyData.eqv a b) else none
def eqD (S : Sto) (x y : D) : Option Bool := (eqS x y).or (eqP S x y)
def gEq : G2 := fun S x y => (eqD S x y).map .bl
def gNe : G2 := fun S x y => (eqD S x y).map fun b => .bl (!b)
theorem eqS_rEq {K : PySem.W.Frag} {m : List Addr} {H : Hp} {x y : V} {dx dy : D} {b : Bool} (rx : VR K m H x dx) (ry : VR K m H y dy) (h : eqS dx dy = some b) : scal x y = true ∧ decide (x = y) = b := by
  cases rx <;> cases ry <;> simp only [eqS] at h <;> (try cases h) <;> refine ⟨rfl, ?_⟩ <;> simp
theorem eqP_inv {S : Sto} {x y : D} {b : Bool} (h : eqP S x y = some b) : ∃ p q, toPD (vw S x) = some p ∧ toPD (vw S y) = some q ∧ SeqAt.shaped p = true ∧ SeqAt.shaped q = true ∧ PyData.eqv p q = b := by
  unfold eqP at h
  cases q1 : toPD (vw S x) with
  | none => rw [q1] at h; cases h
  | some p =>
    rw [q1] at h
    cases q2 : toPD (vw S y) with
    | none => rw [q2] at h; cases h
    | some q =>
      rw [q2] at h
      dsimp only [Option.bind] at h
      split at h
      · rename_i z
        cases h
        exact ⟨p, q, rfl, rfl, z.1, z.2, rfl⟩
      · cases h
theorem opl_eq (hu : X.A.units + 64 < cLine) : OpL X (compareOp .Eq) gEq := ⟨fun pins s σ H m S x y dx dy d v u I q rx ry ex ey e => by
  unfold gEq eqD at e
  cases z : eqS dx dy with
  | some b =>
    rw [z] at e
    cases e
    obtain ⟨h1, h2⟩ := eqS_rEq rx ry z
    exact thn (op_eq pins s σ H x y v u _ I ex ey ⟨h1, by rw [h2]; exact qv_same q (.bl b)⟩) fun _ _ z => vp_of z
  | none =>
    rw [z] at e
    cases z2 : eqP S dx dy with
    | none => rw [z2] at e; cases e
    | some b =>
      rw [z2] at e
      cases e
      obtain ⟨p, p', h1, h2, h3, h4, h5⟩ := eqP_inv z2
      exact thn (op_eqD hu pins s σ H x y v u _ I ex ey ⟨p, p', rx.dpv q h1, ry.dpv q h2, h3, h4, by rw [h5]; exact qv_same q (.bl b)⟩) fun _ _ z => vp_of z⟩
theorem opl_ne (hu : X.A.units + 64 < cLine) : OpL X (compareOp .NotEq) gNe := ⟨fun pins s σ H m S x y dx dy d v u I q rx ry ex ey e => by
  unfold gNe eqD at e
  cases z : eqS dx dy with
  | some b =>
    rw [z] at e
    cases e
    obtain ⟨h1, h2⟩ := eqS_rEq rx ry z
    exact thn (op_ne pins s σ H x y v u _ I ex ey ⟨h1, by rw [h2]; exact qv_same q (.bl _)⟩) fun _ _ z => vp_of z
  | none =>
    rw [z] at e
    cases z2 : eqP S dx dy with
    | none => rw [z2] at e; cases e
    | some b =>
      rw [z2] at e
      cases e
      obtain ⟨p, p', h1, h2, h3, h4, h5⟩ := eqP_inv z2
      exact thn (op_neD hu pins s σ H x y v u _ I ex ey ⟨p, p', rx.dpv q h1, ry.dpv q h2, h3, h4, by rw [h5]; exact qv_same q (.bl _)⟩) fun _ _ z => vp_of z⟩
/-- is None -/
def isNonD : D → Bool
  | .non => true
  | _ => false
def gIsN : G2 := fun _ x y => match y with
  | .non => some (.bl (isNonD x))
  | _ => none
def gNotN : G2 := fun _ x y => match y with
  | .non => some (.bl (!isNonD x))
  | _ => none
theorem vr_non {K : PySem.W.Frag} {m : List Addr} {H : Hp} {v : V} {d : D} (r : VR K m H v d) : decide (v = .non) = isNonD d := by
  cases r <;> simp [isNonD]
theorem opl_isN : OpL X (compareOp .Is) gIsN := .of op_isN fun H m S x y dx dy d q rx ry e => by
  unfold gIsN at e
  split at e
  · cases e
    cases ry
    exact ⟨rfl, by rw [vr_non rx]; exact qv_same q (.bl _)⟩
  · cases e
theorem opl_notN : OpL X (compareOp .IsNot) gNotN := .of op_notN fun H m S x y dx dy d q rx ry e => by
  unfold gNotN at e
  split at e
  · cases e
    cases ry
    exact ⟨rfl, by rw [vr_non rx]; exact qv_same q (.bl _)⟩
  · cases e

/-! ### built-ins -/
def gLen : GC := fun S ds => match ds with
  | [d] => match vw S d with
    | .lst xs => some (.int xs.length)
    | .tup xs => some (.int xs.length)
    | .str z => if z.length ≤ sizeLine then some (.int z.length) else none
    | _ => none
  | _ => none
theorem VRs.one {K : PySem.W.Frag} {m : List Addr} {H : Hp} {vs : List V} {d : D} (r : VRs K m H vs [d]) : ∃ v, vs = [v] ∧ VR K m H v d := by
  cases r with
  | cons h r => cases r; exact ⟨_, rfl, h⟩
theorem VRs.two {K : PySem.W.Frag} {m : List Addr} {H : Hp} {vs : List V} {d e : D} (r : VRs K m H vs [d, e]) : ∃ v w, vs = [v, w] ∧ VR K m H v d ∧ VR K m H w e := by
  cases r with
  | cons h r =>
    cases r with
    | cons h' r => cases r; exact ⟨_, _, rfl, h, h'⟩
theorem cl_len : CallL X (.builtin "len") gLen := .of call_len fun H m S xs ds d q r e => by
  unfold gLen at e
  split at e
  · rename_i d0
    obtain ⟨v, rfl, rv⟩ := r.one
    split at e
    · rename_i ys e1
      cases e
      obtain ⟨a, vs, rfl, h1, r1⟩ := vw_lst q rv e1
      exact ⟨_, ys.length, rfl, .inl ⟨vs, h1, r1.length.symm⟩, qv_same q (.int _)⟩
    · rename_i ys e1
      cases e
      obtain ⟨a, vs, rfl, h1, r1⟩ := vw_tup rv e1
      exact ⟨_, ys.length, rfl, .inr ⟨vs, SqT.of h1, r1.length.symm⟩, qv_same q (.int _)⟩
    · rename_i z e1
      split at e
      · cases e
        cases vw_str rv e1
        exact ⟨_, z.length, rfl, ⟨‹_›, rfl⟩, qv_same q (.int _)⟩
      · cases e
    · cases e
  · cases e
def gAbs : GC := fun _ ds => match ds with
  | [.int i] => some (.int (if i < 0 then -i else i))
  | _ => none
theorem cl_abs : CallL X (.builtin "abs") gAbs := .of call_abs fun H m S xs ds d q r e => by
  unfold gAbs at e
  split at e
  · cases e
    obtain ⟨v, rfl, rv⟩ := r.one
    cases rv
    exact ⟨_, rfl, qv_same q (.int _)⟩
  · cases e
def gMin2 : GC := fun _ ds => match ds with
  | [.int i, .int j] => some (.int (if j < i then j else i))
  | _ => none
theorem cl_min2 (hc : X.calm = true) : CallL X (.builtin "min") gMin2 := .of (call_min2 hc) fun H m S xs ds d q r e => by
  unfold gMin2 at e
  split at e
  · cases e
    obtain ⟨v, w, rfl, rv, rw'⟩ := r.two
    cases rv
    cases rw'
    exact ⟨_, _, rfl, qv_same q (.int _)⟩
  · cases e
def gMax2 : GC := fun _ ds => match ds with
  | [.int i, .int j] => some (.int (if j > i then j else i))
  | _ => none
theorem cl_max2 (hc : X.calm = true) : CallL X (.builtin "max") gMax2 := .of (call_max2 hc) fun H m S xs ds d q r e => by
  unfold gMax2 at e
  split at e
  · cases e
    obtain ⟨v, w, rfl, rv, rw'⟩ := r.two
    cases rv
    cases rw'
    exact ⟨_, _, rfl, qv_same q (.int _)⟩
  · cases e
def blsOf : List D → Option (List Bool)
  | [] => some []
  | .bl b :: r => (blsOf r).map fun bs => b :: bs
  | _ => none
theorem vrs_bls {K : PySem.W.Frag} {m : List Addr} {H : Hp} : ∀ {vs : List V} {ds : List D} {bs : List Bool}, VRs K m H vs ds → blsOf ds = some bs → vs = bs.map V.bl
  | _, _, bs, .nil, e => by simp only [blsOf] at e; cases e; rfl
  | _, _, bs, @VRs.cons _ _ _ v d vs ds h r, e => by
    cases h with
    | bl b =>
      simp only [blsOf] at e
      cases q : blsOf ds with
      | none => rw [q] at e; cases e
      | some cs => rw [q] at e; cases e; rw [vrs_bls r q]; rfl
    | _ => simp only [blsOf] at e; cases e
def gAll : GC := fun S ds => match ds with
  | [d] => match vw S d with
    | .lst xs => (blsOf xs).map fun bs => .bl (bs.all id)
    | _ => none
  | _ => none
def gAny : GC := fun S ds => match ds with
  | [d] => match vw S d with
    | .lst xs => (blsOf xs).map fun bs => .bl (bs.any id)
    | _ => none
  | _ => none
theorem cl_all (hc : X.calm = true) : CallL X (.builtin "all") gAll := .of (cr_all hc) fun H m S xs ds d q r e => by
  unfold gAll at e
  split at e
  · obtain ⟨v, rfl, rv⟩ := r.one
    split at e
    · rename_i ys e1
      obtain ⟨a, vs, rfl, h1, r1⟩ := vw_lst q rv e1
      cases q2 : blsOf ys with
      | none => rw [q2] at e; cases e
      | some bs =>
        rw [q2] at e
        cases e
        exact ⟨a, bs, rfl, by rw [← vrs_bls r1 q2]; exact h1, qv_same q (.bl _)⟩
    · cases e
  · cases e
theorem cl_any (hc : X.calm = true) : CallL X (.builtin "any") gAny := .of (cr_any hc) fun H m S xs ds d q r e => by
  unfold gAny at e
  split at e
  · obtain ⟨v, rfl, rv⟩ := r.one
    split at e
    · rename_i ys e1
      obtain ⟨a, vs, rfl, h1, r1⟩ := vw_lst q rv e1
      cases q2 : blsOf ys with
      | none => rw [q2] at e; cases e
      | some bs =>
        rw [q2] at e
        cases e
        exact ⟨a, bs, rfl, by rw [← vrs_bls r1 q2]; exact h1, qv_same q (.bl _)⟩
    · cases e
  · cases e
def gTuple : GC := fun S ds => match ds with
  | [d] => match vw S d with
    | .lst xs => some (.tup xs)
    | .tup xs => some (.tup xs)
    | _ => none
  | _ => none
theorem cl_tuple : CallL X (.type "tuple") gTuple := .of call_tuple_of fun H m S xs ds d q r e => by
  unfold gTuple at e
  split at e
  · obtain ⟨v, rfl, rv⟩ := r.one
    split at e
    · rename_i ys e1
      cases e
      obtain ⟨a, vs, rfl, h1, r1⟩ := vw_lst q rv e1
      exact ⟨a, vs, rfl, .inl ⟨h1, fun l hl => qv_new q hl (vr_newTup q hl r1)⟩⟩
    · rename_i ys e1
      cases e
      obtain ⟨a, vs, rfl, h1, r1⟩ := vw_tup rv e1
      exact ⟨a, vs, rfl, .inr ⟨SqT.of h1, qv_same q (.tup h1 r1)⟩⟩
    · cases e
  · cases e
def gList : GC := fun S ds => match ds with
  | [d] => match vw S d with
    | .lst xs => some (.lst xs)
    | .tup xs => some (.lst xs)
    | _ => none
  | _ => none
theorem cl_list : CallL X (.type "list") gList := .of call_list_of fun H m S xs ds d q r e => by
  unfold gList at e
  split at e
  · obtain ⟨v, rfl, rv⟩ := r.one
    split at e
    · rename_i ys e1
      cases e
      obtain ⟨a, vs, rfl, h1, r1⟩ := vw_lst q rv e1
      exact ⟨a, vs, rfl, .inl h1, fun l hl => qv_new q hl (vr_newLst q hl r1)⟩
    · rename_i ys e1
      cases e
      obtain ⟨a, vs, rfl, h1, r1⟩ := vw_tup rv e1
      exact ⟨a, vs, rfl, .inr (SqT.of h1), fun l hl => qv_new q hl (vr_newLst q hl r1)⟩
    · cases e
  · cases e
/-- str of an int, of a text -/
def gStr : GC := fun _ ds => match ds with
  | [.int i] => if i.natAbs.log2 < 1920 then some (.str (toString i)) else none
  | [.str z] => some (.str z)
  | _ => none
theorem cl_str : CallL X (.type "str") gStr := ⟨fun pins s σ H m S xs ds d us I q r rv e => by
  unfold gStr at e
  split at e
  · split at e
    · cases e
      obtain ⟨v, rfl, rv1⟩ := r.one
      cases rv1
      exact thn (call_str_int pins s σ H _ us _ I rv ⟨_, rfl, ‹_›, qv_same q (.str _)⟩) fun _ _ z => vp_of z
    · cases e
  · cases e
    obtain ⟨v, rfl, rv1⟩ := r.one
    cases rv1
    exact thn (SkE.call_str_str pins s σ H _ us _ I rv ⟨_, rfl, qv_same q (.str _)⟩) fun _ _ z => vp_of z
  · cases e⟩
/-- repr of an int, a truth -/
def gRepr : GC := fun _ ds => match ds with
  | [.int i] => if i.natAbs.log2 < 1920 then some (.str (toString i)) else none
  | [.bl b] => some (.str (if b then "True" else "False"))
  | _ => none
theorem cl_repr : CallL X (.builtin "repr") gRepr := ⟨fun pins s σ H m S xs ds d us I q r rv e => by
  unfold gRepr at e
  split at e
  · split at e
    · cases e
      obtain ⟨v, rfl, rv1⟩ := r.one
      cases rv1
      exact thn (SkE.call_repr_int pins s σ H _ us _ I rv ⟨_, rfl, ‹_›, qv_same q (.str _)⟩) fun _ _ z => vp_of z
    · cases e
  · cases e
    obtain ⟨v, rfl, rv1⟩ := r.one
    cases rv1
    obtain ⟨u, rfl, ru⟩ := vals1 rv
    cases ru
    exact PySem.P.repr_of_bool ⟨.str _, H, m, I.tok _, ⟨_, rfl⟩, Ext.refl, q, .str _⟩
  · cases e⟩
end
end MP

namespace MP
open PySem PySem.Spec PyProof.Rows L2

/-! ### what a thing is -/
inductive Tg where
  | non | bl | int | str | tup | lst | dct | obj (C : Addr)
  deriving DecidableEq
def tyG : Tg → Value
  | .non => .type "NoneType"
  | .bl => .type "bool"
  | .int => .type "int"
  | .str => .type "str"
  | .tup => .type "tuple"
  | .lst => .type "list"
  | .dct => .type "dict"
  | .obj C => .ref C
def tgD : D → Option Tg
  | .non => some .non
  | .bl _ => some .bl
  | .int _ => some .int
  | .str _ => some .str
  | .tup _ => some .tup
  | .lst _ => some .lst
  | .dct _ => some .dct
  | .obj C _ => some (.obj C)
  | .ref _ => none
structure OwnOk (K : PySem.W.Frag) (C : Addr) : Prop where
  cl : Cls K C
  ha : PySem.W.findIn K (.ref C) "__class__" = some (some (.builtin "object.__class__"))
  hn : PySem.W.specialIn K (.builtin "object.__class__") "__get__" = some (some (.builtin "getset_descriptor.__get__"))
  htk : PySem.W.takesIn K (.builtin "object.__class__") = some true
  hm : PySem.W.mroIn K C (.type "object") = some true
section
variable {X : Cx} {pins : List (Addr × Obj)} {σ : L2.St} {H : Hp} {s : Shared} {m : List Addr} {S : Sto}
/-- what the library's rules ask of a value of that type -/
def Kit (K : PySem.W.Frag) (s : Shared) (u t : Value) : Prop := ∃ P : Heap → Prop, PySem.W.KitX K u t P ∧ P s.heap ∧ u ≠ .builtin "__main__.__loader__#opaque"
theorem kit_tyx {v : V} {u t : Value} (I : Inv X pins σ H s) (r : RelV v u) (h : TyX X.K H v t) : Kit X.K s u t := kit_of I r h
theorem kit_dct {a : Addr} {ob : HO} (I : Inv X pins σ H s) (h : H a = some ob) (hd : ∃ o, s.heap.get? a = some o ∧ o.cls = .type "dict") : Kit X.K s (.ref a) (.type "dict") := by
  obtain ⟨o, h1, h2⟩ := hd
  exact ⟨_, PySem.W.kitx_dict, ⟨o, h1, h2⟩, fun z => nomatch z⟩
theorem kit_rd {a : Addr} {kvs : List (Key × V)} (I : Inv X pins σ H s) (h : Rd H a (.dK kvs)) : Kit X.K s (.ref a) (.type "dict") := by
  rcases h with h | ⟨ob, h⟩
  · exact kit_of I (x := .ref a) rfl (.base (.dK h))
  · exact kit_of I (x := .ref a) rfl (.fDict h)
theorem kit_rdT {a : Addr} {kvs : List (List Key × V)} (I : Inv X pins σ H s) (h : Rd H a (.dT kvs)) : Kit X.K s (.ref a) (.type "dict") := by
  rcases h with h | ⟨ob, h⟩
  · exact kit_of I (x := .ref a) rfl (.base (.dT h))
  · obtain ⟨_, _, _, vs, _, o, es, ep, h1, h2, _⟩ := (show ObjOk X.prog X.w H s.heap a (.frz ob (.dT kvs)) from I.hok a _ h)
    exact ⟨_, PySem.W.kitx_dict, ⟨o, h1, h2.1⟩, fun z => nomatch z⟩
theorem kit_lst {a : Addr} {xs : List V} (I : Inv X pins σ H s) (h : Rd H a (.lst xs)) : Kit X.K s (.ref a) (.type "list") := by
  rcases h with h | ⟨ob, h⟩
  · exact kit_of I (x := .ref a) rfl (.base (.lst h))
  · exact kit_of I (x := .ref a) rfl (.base (.frz h))
theorem kit_d {v : V} {u : Value} {d : D} {t : Tg} (I : Inv X pins σ H s) (x : SR X.K m H S) (r : RelV v u) (w : VR X.K m H v d) (ht : tgD (vw S d) = some t) (ho : ∀ C, t = .obj C → OwnOk X.K C) : Kit X.K s u (tyG t) := by
  cases w with
  | non => cases ht; exact kit_of I r (.base .non)
  | bl b => cases ht; exact kit_of I r (.base (.bl b))
  | int b => cases ht; exact kit_of I r (.base (.int b))
  | str b => cases ht; exact kit_of I r (.base (.str b))
  | tup h _ => cases ht; exact kit_of I r (.base (.tup h))
  | lst n h _ => cases ht; cases r; exact kit_lst I h
  | lstK hk h1 h2 h3 h4 h5 _ => cases ht; exact kit_of I r (.kList hk h1)
  | dct n h _ => cases ht; cases r; exact kit_rd I h
  | dctT n h _ => cases ht; cases r; exact kit_rdT I h
  | @obj a C dx fs gs n h _ =>
    cases ht
    have o := ho C rfl
    exact kit_of I r (.base (.ins h o.cl o.ha o.hn o.htk o.hm))
  | @ref i a h =>
    dsimp only [vw] at ht
    cases q : S[i]? with
    | none => rw [q] at ht; cases ht
    | some ob =>
      rw [q] at ht
      cases r
      cases x.at_ i a ob h q with
      | lst h _ => cases ht; exact kit_lst I (.inl h)
      | dct h _ => cases ht; exact kit_rd I (.inl h)
      | dctT h _ => cases ht; exact kit_rdT I (.inl h)
      | @ins C dx fs gs h _ =>
        cases ht
        have o := ho C rfl
        exact kit_of I (x := .ref a) rfl (.base (.ins h o.cl o.ha o.hn o.htk o.hm))
end

/-! ### isinstance -/
abbrev Tab := Tg → Option Bool
structure IsiOk (K : PySem.W.Frag) (c : Value) (tab : Tab) : Prop where
  one : ∀ t b, tab t = some b → PySem.W.kitOne K (tyG t) c = some b ∧ ∀ C, t = .obj C → OwnOk K C
section
variable {X : Cx} {e ce : Expr} {pos p : Pos} {l : LE} {cv : Value} {cw : V} {tab : Tab}
def gIsi (tab : Tab) (S : Sto) (d : D) : Option D := ((tgD (vw S d)).bind tab).map .bl
def lIsi (tab : Tab) (l : LE) : LE := fun ρ S => (l ρ S).bind fun d S1 => lift1 (gIsi tab S1 d) S1
theorem pel_isi (hg : Gl X "isinstance") (hm : X.mg "isinstance" = none) (he : PEL X e l) (hc : PE X ce (tC cw)) (hcv : ClsV cw cv) (ok : IsiOk X.K cv tab)
    (hs : starEach [e, ce] X.env = (false, eval e X.env) :: starEach [ce] X.env := by rfl) (hs2 : starEach [ce] X.env = (false, eval ce X.env) :: starEach [] X.env := by rfl)
    (hpl : (backTo pos (starEach [ce] X.env)).any (·.1) = false := by rfl) : PEL X (.Call (.Name "isinstance" p) [e, ce] [] pos) (lIsi tab l) := by
  refine ⟨fun pins s σ H m ρ S I x r hp => ?_⟩
  refine wpAny_Call_Name_kw (ld_blt I hg hm (u := .builtin "isinstance") (by decide +kernel) ?_ (by decide) (by decide))
  refine PyProof.Rows.callWith_builtin1 ?_ hs hpl
  rw [hs]
  show wpAny _ _ (spliced ((false, eval e X.env) :: backTo pos (starEach [ce] X.env))) _ _ s
  refine Calls.spliced_cons (run_seq he I x r hp fun d S1 q1 v u s1 H1 m1 I1 rv e1 x1 w1 r1 hp1 => ?_)
  rw [hs2]
  show wpAny _ _ (spliced ((false, eval ce X.env) :: backTo pos (starEach [] X.env))) _ _ s1
  refine Calls.spliced_cons (thn (hc.run pins s1 σ H1 (fun v' H' => v' = cw ∧ H' = H1) I1 ⟨rfl, rfl⟩) fun u2 s2 ⟨v2, H2, I2, rv2, ev, eH⟩ => ?_)
  subst ev
  subst eH
  refine Calls.spliced_nil ?_
  cases q2 : gIsi tab S1 d with
  | none => rw [q2] at hp1; exact absurd rfl hp1.1
  | some d' =>
    have e0 : lIsi tab l ρ S = .ok d' S1 := by unfold lIsi; rw [q1, bind_ok, q2]; rfl
    rw [e0]
    unfold gIsi at q2
    cases qt : tgD (vw S1 d) with
    | none => rw [qt] at q2; cases q2
    | some t =>
      rw [qt] at q2
      cases qb : tab t with
      | none => rw [show (some t).bind tab = tab t from rfl, qb] at q2; cases q2
      | some b =>
        rw [show (some t).bind tab = tab t from rfl, qb] at q2
        cases q2
        obtain ⟨k1, k2⟩ := ok.one t b qb
        obtain ⟨P, Z, pp, hx⟩ := kit_d I2 x1 rv w1 qt k2
        have ec := hcv.eq rv2
        subst ec
        exact PySem.W.kia_one Z I2.kIn pp k1 hx fun tk => ⟨_, S1, rfl, .bl b, H2, m1, I2.tok tk, rfl, e1, x1, .bl b⟩
end

/-! ### own special methods -/
/-- somewhere below the running body, with room -/
structure SubA (X : Cx) (n : Nat) (A : Around) : Prop where
  room : Room n A
  fr : A.frames = X.A.frames
theorem SubA.in1 {X : Cx} {n : Nat} {A : Around} (s : SubA X (n + 1) A) : SubA X n A.in1 := ⟨s.room.in1, s.fr⟩
theorem SubA.mono {X : Cx} {n m : Nat} {A : Around} (s : SubA X n A) (h : m ≤ n) : SubA X m A := ⟨s.room.mono h, s.fr⟩
theorem SubA.self {X : Cx} {k : Nat} (h : Room k X.A) : SubA X k X.A := ⟨h, rfl⟩
def F1 (gp : Sto → D → Option D) : F := fun ds S => match ds with
  | [x] => lift1 (gp S x) S
  | _ => .bad
def F2 (gp : G2) : F := fun ds S => match ds with
  | [x, y] => lift1 (gp S x y) S
  | _ => .bad
section
variable {X : Cx} {pins : List (Addr × Obj)} {σ : L2.St} {H : Hp} {s : Shared} {m : List Addr} {S S' : Sto} {k : Nat} {f C : Addr} {fd : FuncData} {ps : List Str} {g : F} {vs : List V} {us : List Value} {ds : List D} {d : D}
theorem run_pure {A' : Around} {Ex : Value → Shared → Prop} (sb : SubA X k A') (Fn : FnL X.prog X.w X.K X.mg X.base k f fd ps g) (hb : Binds X.K fd ps []) (I : Inv X pins σ H s) (x : SR X.K m H S) (r : Vals vs us) (rd : VRs X.K m H vs ds) (hl : vs.length = ps.length) (hg : g ds S = .ok d S') :
    wpAny (model X.prog X.w) A' (call (.ref f) us) (VP X pins σ m H d S') Ex s := by
  have e0 : Env0 X.prog X.w X.K X.mg X.base A' X.stack s H := by
    have e := I.env0
    exact ⟨by rw [sb.fr]; exact e.frames, e.mod, e.bs, e.bsz, e.funs, e.frf, e.hok, e.bare⟩
  have hsp : spL X.K g ps.length vs H (fun v H' => QV X.K m H S' d v H') (fun _ _ _ => False) := by
    refine ⟨hl, m, S, ds, x, rd, fun z => ?_, fun d2 S2 q v H' z => ?_, fun C fs S2 q => ?_⟩
    · rw [hg] at z; cases z
    · rw [hg] at q; cases q; exact z
    · rw [hg] at q; cases q
  have hl2 : (us ++ ([] : List Value)).length = ps.length := by rw [List.append_nil, ← r.length]; exact hl
  have hb' := hb s us I.kIn hl2
  rw [List.append_nil] at hb'
  refine wpAny_call (codeAny_mono (Fn.run A' X.stack s H ⟨us, []⟩ us vs _ _ sb.room e0 hb' r hsp) fun r s' hq => ?_)
  cases r with
  | error e => obtain ⟨_, _, _, _, _, _, _, _, _, _, _, _, hq⟩ := hq; exact hq.elim
  | ok fl =>
    cases fl with
    | ret w =>
      obtain ⟨z, H', I', rz, m', e, x', w'⟩ := I.after hq
      exact ⟨z, H', m', I', rz, e, x', w'⟩
    | next => exact False.elim hq
    | brk => exact False.elim hq
    | cont => exact False.elim hq

/-- == by an own __eq__; the other one may be of the types ts -/
def gOwnEq (C : Addr) (ts : List Tg) (gp : G2) : G2 := fun S x y => match vw S x with
  | .obj C' _ => if C' = C then (match tgD (vw S y) with
    | some t => if t ∈ ts then gp S x y else none
    | none => none) else none
  | _ => none
theorem gOwnEq_inv {ts : List Tg} {gp : G2} {x y d : D} (h : gOwnEq C ts gp S x y = some d) : ∃ fs t, vw S x = .obj C fs ∧ tgD (vw S y) = some t ∧ t ∈ ts ∧ gp S x y = some d := by
  unfold gOwnEq at h
  split at h
  · rename_i C' fs q
    split at h
    · rename_i hc
      subst hc
      split at h
      · rename_i t qt
        split at h
        · exact ⟨fs, t, q, qt, ‹_›, h⟩
        · cases h
      · cases h
    · cases h
  · cases h
structure EqM (X : Cx) (C : Addr) (ts : List Tg) (gp : G2) : Prop where
  ex : ∃ (k : Nat) (f : Addr) (fd : FuncData) (ps : List Str), FnL X.prog X.w X.K X.mg X.base k f fd ps (F2 gp) ∧ Room (k + 2) X.A ∧ Binds X.K fd ps [] ∧ ps.length = 2 ∧ PySem.W.findIn X.K (.ref C) "__eq__" = some (some (.ref f)) ∧ PySem.W.isFn X.K (.ref f) = true
  fst : ∀ t ∈ ts, PySem.W.notFirst X.K C (tyG t) = true ∧ ∀ C', t = .obj C' → OwnOk X.K C'
theorem opl_ownEq {ts : List Tg} {gp : G2} (E : EqM X C ts gp) : OpL X (compareOp .Eq) (gOwnEq C ts gp) := ⟨fun pins s σ H m S x y dx dy d v u I q rx ry ex ey e => by
  obtain ⟨k, f, fd, ps, Fn, hr, hb, hl, hs, hf⟩ := E.ex
  obtain ⟨fs, t, h1, h2, h3, h4⟩ := gOwnEq_inv e
  obtain ⟨n1, n2⟩ := E.fst t h3
  obtain ⟨a, dx', fs', rfl, ha, _⟩ := vw_obj q rx h1
  cases ex
  obtain ⟨mA, J, _⟩ := ins_get I.hok ha
  obtain ⟨od, J, _⟩ := J.look
  obtain ⟨mm, hF⟩ := I.fr
  obtain ⟨P, Z, pp, _⟩ := kit_d I q ey ry h2 n2
  show wpAny _ _ (richCompare .Eq _ _) _ _ _
  refine PySem.W.cmp_K (op := .Eq) (tb := tyG t) (SubA.self hr).room.units0 hF I.ok.mod.kin J (Z.ty _ _ I.kIn pp) n1 hs hf ?_
  refine wpAny_mono (run_pure (vs := [.ref a, y]) (us := [.ref a, u]) (SubA.self (hr.mono (by omega))) Fn hb I q (.cons rfl (.cons ey .nil)) (.cons rx (.cons ry .nil)) (by rw [hl]; rfl) (show F2 gp [dx, dy] S = .ok d S from by simp only [F2]; rw [h4]; rfl)) (fun w s' z => ?_) fun _ _ z => z
  obtain ⟨vv, H', m', I', rv, e', x', w'⟩ := z
  have : w ≠ .notImplemented := fun zz => by
    subst zz
    cases w' <;> first | (cases rv; done) | (obtain ⟨_, rv⟩ := rv; cases rv)
  show PySem.W.CmpBack _ w s'
  unfold PySem.W.CmpBack
  split
  · exact absurd rfl this
  · exact ⟨vv, H', m', I', rv, e', x', w'⟩⟩
end
/-! ### != by object.__ne__ -/
section
variable {prog : Program} {w : World} {K : PySem.W.Frag} {h₀ : Heap} {L m : List Addr} {A : Around} {E : Value → Shared → Prop} {s : Shared} {x f C : Addr} {ox : Obj} {od : Option Obj}
theorem ifBound_bi {M : Model} {name : Str} {id : String} {args : List Value} {Q : Option Value → Shared → Prop} (X : K.In s.heap) (I : PySem.W.InstAt s.heap x ox C od) (hs : PySem.W.findIn K (.ref C) name = some (some (.builtin id)))
    (hb : ∀ self, bindSpecial (.builtin id) self = pure (.builtin id, [self])) (h : wpAny M A (call (.builtin id) (.ref x :: args)) (fun v => Q (some v)) E s) : wpAny M A (callSpecialIfBound? (.ref x) name args) Q E s := by
  simp only [callSpecialIfBound?, bindSpecialIfBound?]
  refine wpAny_holding (wpAny_bind (wpAny_bind (wpAny_bind (I.type.here ((PySem.W.looks_findIn X hs).here ?_)))))
  refine wpAny_bind (wpAny_askSetting (wpAny_ite ?_))
  have fin : wpAny M A (call (.builtin id) ([.ref x] ++ args) >>= fun v => pure (some v)) Q E s := wpAny_bind (wpAny_mono h (fun v s' h' => wpAny_pure h') fun _ _ h' => h')
  split
  · exact wpAny_bind ((PySem.W.Looks.of_pure (hb _)).here (wpAny_pure (by exact fin)))
  · exact wpAny_tryCatch (wpAny_bind ((PySem.W.Looks.of_pure (hb _)).here (wpAny_pure (by exact fin))))
open Builtin in
theorem ne_entry {b : Value} {Q : Fin → Shared → Prop} (hu : A.units < cLine) (X : K.In s.heap) (I : PySem.W.InstAt s.heap x ox C od) (hs : PySem.W.findIn K (.ref C) "__eq__" = some (some (.ref f))) (hf : PySem.W.isFn K (.ref f) = true)
    (h : wpAny (model prog w) A (call (.ref f) [.ref x, b]) (fun v s' => ∃ b, v = .bool b ∧ Q (.done (.ret (.bool (!b)))) s') E s) :
    wpAny (model prog w) A (Builtin.«object.__ne__» ⟨[.ref x, b], []⟩) Q E s := by
  unfold Builtin.«object.__ne__»
  repeat (first
    | with_reducible refine wpAny_cRoomFor hu ?_
    | (refine wpAny_bind (m := callSpecialIfBound? (.ref x) (Str.ofString "__eq__") [b])
        (PySem.W.ifBound_K X I hs hf (wpAny_mono h (fun r s' hr => by
          obtain ⟨b, rfl, hq⟩ := hr
          repeat (first | exact hq | exact wpAny_pure hq | exact wpAny_truthy_bool hq | (refine wpAny_bind (m := truthy (.bool _)) (wpAny_truthy_bool ?_)) | wp_step)) fun _ _ e => e)))
    | wp_step)
theorem ne_K {b tb : Value} {Q : Value → Shared → Prop} (hu : A.units + 1 < cLine) (X : K.In s.heap) (I : PySem.W.InstAt s.heap x ox C od) (hb : PySem.W.Looks (model prog w) s.heap (typeOf b) tb) (hn : PySem.W.notFirst K C tb = true)
    (hne : PySem.W.findIn K (.ref C) "__ne__" = some (some (.builtin "object.__ne__"))) (hm : PySem.W.mroIn K C (.type "object") = some true) (hs : PySem.W.findIn K (.ref C) "__eq__" = some (some (.ref f))) (hf : PySem.W.isFn K (.ref f) = true)
    (h : wpAny (model prog w) A.in1 (call (.ref f) [.ref x, b]) (fun v s' => ∃ b, v = .bool b ∧ Q (.bool (!b)) s') E s) : wpAny (model prog w) A (richCompare .NotEq (.ref x) b) Q E s := by
  have one : wpAny (model prog w) A (tryCompare (.ref x) (cmpInfo .NotEq).2.1 b) (fun r s' => ∃ v, r = some v ∧ Q v s') E s := by
    unfold tryCompare
    refine wpAny_bind (ifBound_bi X I hne PySem.F.slot_object_ne.bind (wpAny_call (codeAny_call_builtin PySem.F.slot_object_ne.plain PySem.F.cmpEntry_ne (PySem.W.check_slot (i := "object.__ne__") (owner := "object") (n := "__ne__") PySem.F.cmpKind_ne PySem.F.cmpSplit_ne (I.type.andThen (PySem.W.looks_mroIn X hm)) (PySem.F.cmpArgs_ne _ _)
      (ne_entry (A := A.in1) hu X I hs hf (wpAny_mono h (fun v s' hv => ?_) fun _ _ e => e))))))
    obtain ⟨b, rfl, hq⟩ := hv
    first | exact ⟨b, rfl, wpAny_pure ⟨_, rfl, hq⟩⟩ | exact ⟨b, rfl, wpAny_pure (wpAny_pure ⟨_, rfl, hq⟩)⟩ | exact ⟨b, rfl, ⟨_, rfl, hq⟩⟩
  unfold richCompare
  simp only [oneThing_ref]
  refine wpAny_holding (wpAny_bind (wpAny_cRoomFor (by omega) ?_))
  refine wpAny_bind (I.type.here (wpAny_bind (hb.here ?_)))
  split
  · rename_i q
    have e : PySem.W.subIn K tb (.ref C) = some false := by
      rcases Bool.or_eq_true_iff.mp hn with e | e
      · rw [beq_iff_eq.mp e] at q; simp at q
      · exact beq_iff_eq.mp e
    refine wpAny_bind ((PySem.W.looks_subIn X e).here ?_)
    simp only [Bool.false_eq_true, if_false]
    refine wpAny_bind (wpAny_mono one (fun r s' z => ?_) fun _ _ e => e)
    obtain ⟨v, rfl, hq⟩ := z
    exact wpAny_pure hq
  · refine wpAny_bind (wpAny_pure ?_)
    simp only [Bool.false_eq_true, if_false]
    refine wpAny_bind (wpAny_mono one (fun r s' z => ?_) fun _ _ e => e)
    obtain ⟨v, rfl, hq⟩ := z
    exact wpAny_pure hq
end
end MP

namespace MP
open PySem PySem.Spec PyProof.Rows L2

section
variable {X : Cx} {C : Addr}
/-- != by an own __eq__ and object.__ne__ -/
def gOwnNe (C : Addr) (ts : List Tg) (gp : G2) : G2 := fun S x y => (gOwnEq C ts gp S x y).bind fun d => match d with
  | .bl b => some (.bl (!b))
  | _ => none
theorem opl_ownNe {ts : List Tg} {gp : G2} (E : EqM X C ts gp) (hne : PySem.W.findIn X.K (.ref C) "__ne__" = some (some (.builtin "object.__ne__"))) (hm : PySem.W.mroIn X.K C (.type "object") = some true) : OpL X (compareOp .NotEq) (gOwnNe C ts gp) := ⟨fun pins s σ H m S x y dx dy d v u I q rx ry ex ey e => by
  obtain ⟨k, f, fd, ps, Fn, hr, hb, hl, hs, hf⟩ := E.ex
  unfold gOwnNe at e
  cases e1 : gOwnEq C ts gp S dx dy with
  | none => rw [e1] at e; cases e
  | some d1 =>
    rw [e1] at e
    dsimp only [Option.bind] at e
    split at e
    · rename_i b
      cases e
      obtain ⟨fs, t, h1, h2, h3, h4⟩ := gOwnEq_inv e1
      obtain ⟨n1, n2⟩ := E.fst t h3
      obtain ⟨a, dx', fs', rfl, ha, _⟩ := vw_obj q rx h1
      cases ex
      obtain ⟨mA, J, _⟩ := ins_get I.hok ha
      obtain ⟨od, J, _⟩ := J.look
      obtain ⟨P, Z, pp, _⟩ := kit_d I q ey ry h2 n2
      have sb : SubA X (k + 2) X.A := SubA.self hr
      show wpAny _ _ (richCompare .NotEq _ _) _ _ _
      refine ne_K (tb := tyG t) sb.in1.room.units0 I.kIn J (Z.ty _ _ I.kIn pp) n1 hne hm hs hf ?_
      refine wpAny_mono (run_pure (vs := [.ref a, y]) (us := [.ref a, u]) (sb.in1.mono (by omega)) Fn hb I q (.cons rfl (.cons ey .nil)) (.cons rx (.cons ry .nil)) (by rw [hl]; rfl) (show F2 gp [dx, dy] S = .ok (.bl b) S from by simp only [F2]; rw [h4]; rfl)) (fun w s' z => ?_) fun _ _ z => z
      obtain ⟨vv, H', m', I', rv, e', x', w'⟩ := z
      cases w'
      obtain rfl : w = Value.bool b := rv
      exact ⟨b, rfl, .bl (!b), H', m', I', rfl, e', x', .bl _⟩
    · cases e⟩
/-- an own special method of one argument -/
structure OneM (X : Cx) (C : Addr) (nm : Str) (gp : Sto → D → Option D) : Prop where
  ex : ∃ (k : Nat) (f : Addr) (fd : FuncData) (ps : List Str), FnL X.prog X.w X.K X.mg X.base k f fd ps (F1 gp) ∧ Room (k + 3) X.A ∧ Binds X.K fd ps [] ∧ ps.length = 1 ∧ PySem.W.findIn X.K (.ref C) nm = some (some (.ref f)) ∧ PySem.W.isFn X.K (.ref f) = true
def gOwn1 (C : Addr) (gp : Sto → D → Option D) (S : Sto) (d : D) : Option D := match vw S d with
  | .obj C' _ => if C' = C then gp S d else none
  | _ => none
theorem gOwn1_inv {gp : Sto → D → Option D} {S : Sto} {x d : D} (h : gOwn1 C gp S x = some d) : ∃ fs, vw S x = .obj C fs ∧ gp S x = some d := by
  unfold gOwn1 at h
  split at h
  · rename_i C' fs q
    split at h
    · rename_i hc
      subst hc
      exact ⟨fs, q, h⟩
    · cases h
  · cases h
def strD : D → Option D
  | .str z => some (.str z)
  | _ => none
def gStrO (C : Addr) (gp : Sto → D → Option D) : GC := fun S ds => match ds with
  | [d] => (gOwn1 C gp S d).bind strD
  | _ => none
theorem gStrO_inv {gp : Sto → D → Option D} {S : Sto} {ds : List D} {d : D} (h : gStrO C gp S ds = some d) : ∃ x fs z, ds = [x] ∧ vw S x = .obj C fs ∧ gp S x = some (.str z) ∧ d = .str z := by
  unfold gStrO at h
  split at h
  · rename_i x
    cases q : gOwn1 C gp S x with
    | none => rw [q] at h; cases h
    | some e =>
      rw [q] at h
      obtain ⟨fs, h1, h2⟩ := gOwn1_inv q
      cases e with
      | str z => cases h; exact ⟨x, fs, z, rfl, h1, h2, rfl⟩
      | _ => cases h
  · cases h
theorem strBack {pins : List (Addr × Obj)} {σ : L2.St} {m : List Addr} {H : Hp} {S' : Sto} {z : Str} {w : Value} {s' : Shared} (h : VP X pins σ m H (.str z) S' w s') : PySem.W.StrBack (VP X pins σ m H (.str z) S') w s' := by
  obtain ⟨vv, H', m', I', rv, e', x', w'⟩ := id h
  cases w'
  obtain ⟨t, rfl⟩ := rv
  exact h
theorem cl_strO {gp : Sto → D → Option D} (E : OneM X C "__str__" gp) : CallL X (.type "str") (gStrO C gp) := ⟨fun pins s σ H m S xs ds d us I q r rv e => by
  obtain ⟨k, f, fd, ps, Fn, hr, hb, hl, hs, hf⟩ := E.ex
  obtain ⟨x, fs, z, rfl, h1, h2, rfl⟩ := gStrO_inv e
  obtain ⟨v, rfl, w⟩ := r.one
  obtain ⟨u, rfl, ru⟩ := vals1 rv
  obtain ⟨a, dx, fs', rfl, ha, _⟩ := vw_obj q w h1
  cases ru
  obtain ⟨mA, J, _⟩ := ins_get I.hok ha
  obtain ⟨od, J, _⟩ := J.look
  have sb : SubA X (k + 3) X.A := SubA.self hr
  refine PySem.W.kso_call sb.in1.in1.room.units0 I.kIn J hs hf ?_
  exact wpAny_mono (run_pure (vs := [.ref a]) (us := [.ref a]) (sb.in1.in1.mono (by omega)) Fn hb I q (.cons rfl .nil) (.cons w .nil) (by rw [hl]; rfl) (show F1 gp [x] S = .ok (.str z) S from by simp only [F1]; rw [h2]; rfl)) (fun w s' z => strBack z) fun _ _ z => z⟩
theorem cl_reprO {gp : Sto → D → Option D} (E : OneM X C "__repr__" gp) : CallL X (.builtin "repr") (gStrO C gp) := ⟨fun pins s σ H m S xs ds d us I q r rv e => by
  obtain ⟨k, f, fd, ps, Fn, hr, hb, hl, hs, hf⟩ := E.ex
  obtain ⟨x, fs, z, rfl, h1, h2, rfl⟩ := gStrO_inv e
  obtain ⟨v, rfl, w⟩ := r.one
  obtain ⟨u, rfl, ru⟩ := vals1 rv
  obtain ⟨a, dx, fs', rfl, ha, _⟩ := vw_obj q w h1
  cases ru
  obtain ⟨mA, J, _⟩ := ins_get I.hok ha
  obtain ⟨od, J, _⟩ := J.look
  have sb : SubA X (k + 3) X.A := SubA.self hr
  obtain ⟨mm, hF⟩ := I.fr
  refine PySem.W.repr_K sb.in1.room.units0 hF I.ok.mod.kin J hs hf ?_
  exact wpAny_mono (run_pure (vs := [.ref a]) (us := [.ref a]) (sb.in1.mono (by omega)) Fn hb I q (.cons rfl .nil) (.cons w .nil) (by rw [hl]; rfl) (show F1 gp [x] S = .ok (.str z) S from by simp only [F1]; rw [h2]; rfl)) (fun w s' z => strBack z) fun _ _ z => z⟩
def gLenO (C : Addr) (gp : Sto → D → Option D) : GC := fun S ds => match ds with
  | [d] => (gOwn1 C gp S d).bind fun e => match e with
    | .int n => if 0 ≤ n ∧ n < 2 ^ 63 then some (.int n) else none
    | _ => none
  | _ => none
theorem gLenO_inv {gp : Sto → D → Option D} {S : Sto} {ds : List D} {d : D} (h : gLenO C gp S ds = some d) : ∃ x fs n, ds = [x] ∧ vw S x = .obj C fs ∧ gp S x = some (.int n) ∧ d = .int n ∧ 0 ≤ n ∧ n < 2 ^ 63 := by
  unfold gLenO at h
  split at h
  · rename_i x
    cases q : gOwn1 C gp S x with
    | none => rw [q] at h; cases h
    | some e =>
      rw [q] at h
      obtain ⟨fs, h1, h2⟩ := gOwn1_inv q
      cases e with
      | int n =>
        dsimp only [Option.bind] at h
        split at h
        · rename_i hn
          cases h
          exact ⟨x, fs, n, rfl, h1, h2, rfl, hn.1, hn.2⟩
        · cases h
      | _ => cases h
  · cases h
theorem cl_lenO {gp : Sto → D → Option D} (E : OneM X C "__len__" gp) : CallL X (.builtin "len") (gLenO C gp) := ⟨fun pins s σ H m S xs ds d us I q r rv e => by
  obtain ⟨k, f, fd, ps, Fn, hr, hb, hl, hs, hf⟩ := E.ex
  obtain ⟨x, fs, n, rfl, h1, h2, rfl, n0, n1⟩ := gLenO_inv e
  obtain ⟨v, rfl, w⟩ := r.one
  obtain ⟨u, rfl, ru⟩ := vals1 rv
  obtain ⟨a, dx, fs', rfl, ha, _⟩ := vw_obj q w h1
  cases ru
  obtain ⟨mA, J, _⟩ := ins_get I.hok ha
  obtain ⟨od, J, _⟩ := J.look
  have sb : SubA X (k + 3) X.A := SubA.self hr
  obtain ⟨mm, hF⟩ := I.fr
  refine PySem.W.len_K hF I.ok.mod.kin J hs hf ?_
  refine wpAny_mono (run_pure (vs := [.ref a]) (us := [.ref a]) (sb.in1.mono (by omega)) Fn hb I q (.cons rfl .nil) (.cons w .nil) (by rw [hl]; rfl) (show F1 gp [x] S = .ok (.int n) S from by simp only [F1]; rw [h2]; rfl)) (fun w s' z => ?_) fun _ _ z => z
  obtain ⟨vv, H', m', I', rv, e', x', w'⟩ := z
  cases w'
  obtain ⟨t, rfl⟩ := rv
  first
    | exact ⟨⟨n0, n1⟩, .int n, H', m', I'.tok _, ⟨_, rfl⟩, e', x', .int n⟩
    | exact ⟨⟨n0, n1⟩, .int n, H', m', I', ⟨_, rfl⟩, e', x', .int n⟩⟩
end
end MP

namespace MP
open PySem PySem.Spec PyProof.Rows L2

/-! ### f'..' -/
section
variable {X : Cx} {e : Expr} {es : List Expr} {l : LE} {pos : Pos}
def gFmt (S : Sto) (d : D) : Option D := match vw S d with
  | .str y => if y.length ≤ sizeLine then some (.str y) else none
  | .int i => if i.natAbs.log2 < 1920 then some (.str (toString i)) else none
  | _ => none
def lFmt (l : LE) : LE := fun ρ S => (l ρ S).bind fun d S1 => lift1 (gFmt S1 d) S1
theorem pel_fmt (he : PEL X e l) : PEL X (.FormattedValue e (-1) none pos) (lFmt l) := by
  refine ⟨fun pins s σ H m ρ S I x r hp => ?_⟩
  refine wpAny_FormattedValue_plain (run_seq he I x r hp fun d S1 q1 v u s1 H1 m1 I1 rv e1 x1 w1 r1 hp1 => ?_)
  cases q2 : gFmt S1 d with
  | none => rw [q2] at hp1; exact absurd rfl hp1.1
  | some d' =>
    have e0 : lFmt l ρ S = .ok d' S1 := by unfold lFmt; rw [q1, bind_ok, q2]; rfl
    rw [e0]
    unfold gFmt at q2
    split at q2
    · rename_i y qv
      obtain rfl := vw_str w1 qv
      split at q2
      · rename_i hz
        cases q2
        obtain ⟨t, rfl⟩ := rv
        exact wpAny_formatField_str ⟨_, S1, rfl, .str y, H1, m1, I1, ⟨t, rfl⟩, e1, x1, .str y⟩ ⟨_, S1, rfl, .str y, H1, m1, I1.tok _, ⟨_, rfl⟩, e1, x1, .str y⟩ hz
      · cases q2
    · rename_i i qv
      obtain rfl := vw_int w1 qv
      split at q2
      · rename_i hz
        cases q2
        obtain ⟨t, rfl⟩ := rv
        exact wpAny_formatField_int hz ⟨_, S1, rfl, .str _, H1, m1, I1.tok _, ⟨_, rfl⟩, e1, x1, .str _⟩
      · cases q2
    · cases q2
abbrev LJ := Str → Ev → Sto → R Str
structure PJL (X : Cx) (es : List Expr) (l : LJ) : Prop where
  run : ∀ (acc : Str) (pins : List (Addr × Obj)) (s : Shared) (σ : L2.St) (H : Hp) (m : List Addr) (ρ : Ev) (S : Sto) (Rr : Str → Shared → Prop), acc.length ≤ sizeLine → Inv X pins σ H s → SR X.K m H S → ER X.K m H σ ρ → Hope X σ m H (l acc ρ S) →
    (∀ out S1 s1 H1 m1, l acc ρ S = .ok out S1 → out.length ≤ sizeLine → Inv X pins σ H1 s1 → Ext m H m1 H1 → SR X.K m1 H1 S1 → Rr out s1) → Joins (model X.prog X.w) X.A X.xe (evalEach es X.env) acc Rr s
def jNil : LJ := fun acc _ S => .ok acc S
def jCons (l : LE) (t : LJ) : LJ := fun acc ρ S => (l ρ S).bind fun d S1 => match d with
  | .str y => if (acc ++ y).length ≤ sizeLine then t (acc ++ y) ρ S1 else .bad
  | _ => .bad
theorem pjl_nil : PJL X [] jNil := ⟨fun acc pins s σ H m ρ S Rr hz I x r hp k => by
  have e0 : evalEach [] X.env = [] := by first | rfl | simp [evalEach]
  rw [e0]
  exact k acc S s H m rfl hz I Ext.refl x⟩
theorem pjl_cons {t : LJ} (he : PEL X e l) (ht : PJL X es t) : PJL X (e :: es) (jCons l t) := ⟨fun acc pins s σ H m ρ S Rr hz I x r hp k => by
  have e0 : evalEach (e :: es) X.env = eval e X.env :: evalEach es X.env := by first | rfl | simp [evalEach]
  rw [e0]
  refine run_seq he I x r hp fun d S1 q1 v u s1 H1 m1 I1 rv e1 x1 w1 r1 hp1 => ?_
  cases d with
  | str y =>
    have hy := hope_if hp1
    dsimp only at hp1
    rw [if_pos hy] at hp1
    cases w1
    obtain ⟨tk, rfl⟩ := rv
    have e2 : jCons l t acc ρ S = t (acc ++ y) ρ S1 := by unfold jCons; rw [q1, bind_ok]; dsimp only; rw [if_pos hy]
    exact ⟨y, tk, rfl, hy, ht.run (acc ++ y) pins s1 σ H1 m1 ρ S1 Rr hy I1 x1 r1 hp1 fun out S2 s2 H2 m2 q2 hz2 I2 e3 x2 => k out S2 s2 H2 m2 (e2.trans q2) hz2 I2 (e1.trans e3) x2⟩
  | _ => exact absurd rfl hp1.1⟩
def lJoin (t : LJ) : LE := fun ρ S => (t Str.empty ρ S).bind fun out S1 => .ok (.str out) S1
theorem hope_bind {α β : Type} {r : R α} {f : α → Sto → R β} {X : Cx} {σ : L2.St} {m : List Addr} {H : Hp} (h : Hope X σ m H (r.bind f)) : Hope X σ m H r := hope_seq h
theorem pel_join {v1 v2 : Expr} {rest : List Expr} {t : LJ} (h : PJL X (v1 :: v2 :: rest) t) : PEL X (.JoinedStr (v1 :: v2 :: rest) pos) (lJoin t) := by
  refine ⟨fun pins s σ H m ρ S I x r hp => ?_⟩
  refine wpAny_JoinedStr (h.run Str.empty pins s σ H m ρ S _ (Nat.zero_le _) I x r (hope_seq hp) fun out S1 s1 H1 m1 q1 hz I1 e1 x1 => ⟨hz, .str out, S1, ?_, .str out, H1, m1, I1.tok _, ⟨_, rfl⟩, e1, x1, .str out⟩)
  unfold lJoin; rw [q1]; rfl
theorem pel_join1 (he : PEL X e l) : PEL X (.JoinedStr [e] pos) l := ⟨fun pins s σ H m ρ S I x r hp => wpAny_JoinedStr_one (he.run pins s σ H m ρ S I x r hp)⟩
end

/-! ### methods of the built-in types -/
/-- the value and the store behind a method -/
abbrev GM := Sto → D → List D → Option (D × Sto)
structure MtL (X : Cx) (id : String) (g : GM) : Prop where
  run : ∀ (pins : List (Addr × Obj)) (s : Shared) (σ : L2.St) (H : Hp) (m : List Addr) (S S' : Sto) (x : V) (dx d : D) (xs : List V) (ds : List D) (v : Value) (us : List Value), Inv X pins σ H s → SR X.K m H S → VR X.K m H x dx → VRs X.K m H xs ds → RelV x v → Vals xs us → g S dx ds = some (d, S') →
    wpAny (model X.prog X.w) X.A (call (.builtin id) (v :: us)) (VP X pins σ m H d S') X.xe s
def isTy (T : String) (S : Sto) (d : D) : Bool := match vw S d with
  | .lst _ => T == "list"
  | .str _ => T == "str"
  | .dct _ => match d with
    | .ref _ => T == "dict"
    | _ => false
  | _ => false
theorem ty_of {X : Cx} {m : List Addr} {H : Hp} {S : Sto} {v : V} {d : D} {T : String} (x : SR X.K m H S) (r : VR X.K m H v d) (h : isTy T S d = true) : tyV X.K T v H := by
  unfold isTy at h
  split at h
  · rename_i xs q
    obtain ⟨a, vs, rfl, h1, _⟩ := vw_lst x r q
    exact .inl ⟨beq_iff_eq.mp h, vs, h1⟩
  · rename_i z q
    obtain rfl := vw_str r q
    exact beq_iff_eq.mp h
  · rename_i kvs q
    split at h
    · rename_i i
      cases r with
      | @ref _ a hm =>
        dsimp only [vw] at q
        cases q2 : S[i]? with
        | none => rw [q2] at q; cases q
        | some ob =>
          rw [q2] at q
          cases x.at_ i a ob hm q2 with
          | lst _ _ => cases q
          | ins _ _ => cases q
          | dct h1 _ => exact .inr (.inr (.inl ⟨beq_iff_eq.mp h, .inl ⟨_, h1⟩⟩))
          | dctT h1 _ => exact .inr (.inr (.inl ⟨beq_iff_eq.mp h, .inr ⟨_, h1⟩⟩))
    · cases h
  · cases h
def liftM (o : Option (D × Sto)) : R D := match o with
  | some (d, S) => .ok d S
  | none => .bad
def lBM (T : String) (g : GM) (lo : LE) (t : LA) : LE := fun ρ S => (lo ρ S).bind fun d S0 => if isTy T S0 d = true then (t ρ S0).bind fun ds S1 => liftM (g S1 d ds) else .bad
section
variable {X : Cx} {o e : Expr} {es : List Expr} {lo : LE} {t : LA} {name : Str} {apos cpos : Pos} {T id : String} {g : GM}
theorem pel_bm (pa : PlainAttrs T) (slot : Slot T name id) (hty : typeOf (.builtin id) = pure (.type "method_descriptor")) (hm : MtL X id g) (ho : PEL X o lo) (ha : PAL X (e :: es) t)
    (hbase : attributeBase o name X.env (eval o X.env) = eval o X.env := by rfl)
    (hfew : ((backTo cpos (starEach (e :: es) X.env)).all (fun x => !x.1) && (backToKw cpos (keywordEach [] X.env)).all (fun x => x.1.isSome)
      && decide ((e :: es).length + ([] : List Keyword).length + (if ([] : List Keyword).isEmpty then 0 else 1) < 30)) = true := by rfl)
    (hline : (apos.endLine == cpos.line) = true := by rfl) (hs : starEach (e :: es) X.env = (false, eval e X.env) :: starEach es X.env := by rfl) (hplain : (backTo cpos (starEach es X.env)).any (·.1) = false := by rfl) :
    PEL X (.Call (.Attribute o name apos) (e :: es) [] cpos) (lBM T g lo t) := by
  refine ⟨fun pins s σ H m ρ S I x r hp => ?_⟩
  refine wpAny_Call_method_late hbase hfew hline rfl (run_seq ho I x r hp fun d S0 q0 v u s1 H1 m1 I1 rv e1 x1 w1 r1 hp1 => ?_)
  have hc := hope_if hp1
  rw [if_pos hc] at hp1
  obtain ⟨h1, h2⟩ := tyV_is I1 rv (ty_of x1 w1 hc)
  refine ⟨T, id, pa, slot, hty, h1, h2, ?_⟩
  have hA : wpAny (model X.prog X.w) X.A (spliced (backTo cpos (starEach (e :: es) X.env))) (fun us s' => wpAny (model X.prog X.w) X.A (call (.builtin id) (u :: us)) (VPr X pins σ m H (lBM T g lo t ρ S)) X.xe s') X.xe s1 :=
    run_seqA ha I1 x1 r1 hp1 fun ds S1 q1 vs us s2 H2 m2 I2 rv2 e2 x2 w2 r2 hp2 => by
      cases q2 : g S1 d ds with
      | none => rw [q2] at hp2; exact absurd rfl hp2.1
      | some z =>
        obtain ⟨d', S'⟩ := z
        have e0 : lBM T g lo t ρ S = .ok d' S' := by unfold lBM; rw [q0, bind_ok, if_pos hc, q1, bind_ok, q2]; rfl
        rw [e0]
        exact thn (hm.run pins s2 σ H2 m2 S1 S' v d d' vs ds u us I2 x2 (w1.ext e2 x1.muts) w2 rv rv2 q2) fun _ _ z => (vpr_of z).left (e1.trans e2)
  rw [hs] at hA ⊢
  exact Calls.callWith_builtin (by show (false || (backTo cpos (starEach es X.env)).any (·.1)) = false; rw [hplain] <;> rfl) (Calls.evalArgs_plain hA)
theorem pel_bm0 (pa : PlainAttrs T) (slot : Slot T name id) (hty : typeOf (.builtin id) = pure (.type "method_descriptor")) (hm : MtL X id g) (ho : PEL X o lo)
    (hbase : attributeBase o name X.env (eval o X.env) = eval o X.env := by rfl) (hline : (apos.endLine == cpos.line) = true := by rfl) : PEL X (.Call (.Attribute o name apos) [] [] cpos) (lBM T g lo aNil) := by
  refine ⟨fun pins s σ H m ρ S I x r hp => ?_⟩
  refine wpAny_Call_method0_late hbase hline (run_seq ho I x r hp fun d S0 q0 v u s1 H1 m1 I1 rv e1 x1 w1 r1 hp1 => ?_)
  have hc := hope_if hp1
  rw [if_pos hc] at hp1
  obtain ⟨h1, h2⟩ := tyV_is I1 rv (ty_of x1 w1 hc)
  refine ⟨T, id, pa, slot, hty, h1, h2, Calls.callWith_builtin rfl (PySem.evalArgs_none ?_)⟩
  have hp2 : Hope X σ m1 H1 (liftM (g S0 d [])) := hp1
  cases q2 : g S0 d [] with
  | none => rw [q2] at hp2; exact absurd rfl hp2.1
  | some z =>
    obtain ⟨d', S'⟩ := z
    have e0 : lBM T g lo aNil ρ S = .ok d' S' := by unfold lBM; rw [q0, bind_ok, if_pos hc]; show liftM (g S0 d []) = _; rw [q2]; rfl
    rw [e0]
    exact thn (hm.run pins s1 σ H1 m1 S0 S' v d d' [] [] u [] I1 x1 w1 .nil rv .nil q2) fun _ _ z => (vpr_of z).left e1
end
section
variable {X : Cx}
def stApp : GM := fun S r ds => match r, ds with
  | .ref j, [y] => match S[j]? with
    | some (.lst xs) => if xs.length < sizeLine then some (.non, S.set j (.lst (xs ++ [y]))) else none
    | _ => none
  | _, _ => none
theorem mtl_append : MtL X "list.append" stApp := ⟨fun pins s σ H m S S' x dx d xs ds v us I q r rs rv rvs e => by
  unfold stApp at e
  split at e
  · rename_i j y
    split at e
    · rename_i l q1
      split at e
      · rename_i hz
        cases e
        obtain ⟨a, rfl, ha, orr⟩ := VR.ref_at q r q1
        obtain ⟨w, rfl, rw'⟩ := rs.one
        cases orr with
        | @lst vs _ hh rr =>
          obtain ⟨z1, z2⟩ := q.write (o' := .lst (vs ++ [w])) (ob' := .lst (l ++ [y])) ha fun e => .lst upd_same ((rr.append (.cons rw' .nil)).ext e q.muts)
          exact thn (mt_append pins s σ H (.ref a) [w] v us (fun v' H' => v' = .non ∧ H' = upd H a (.lst (vs ++ [w]))) I rv rvs ⟨a, vs, w, rfl, rfl, hh, by rw [rr.length]; exact hz, rfl, rfl⟩) fun _ s' ⟨v', H', I', rv', ev, eH⟩ => by
            subst ev; subst eH
            exact ⟨.non, _, m, I', rv', z1, z2, .non⟩
      · cases e
    · cases e
  · cases e⟩
def stPopAt : GM := fun S r ds => match r, ds with
  | .ref j, [.int i] => match S[j]? with
    | some (.lst xs) => if -(2 ^ 63) ≤ i ∧ i < 2 ^ 63 then (seqIndex? i xs.length).bind fun k => (xs[k]?).map fun y => (y, S.set j (.lst (xs.eraseIdx k))) else none
    | _ => none
  | _, _ => none
theorem mtl_popAt : MtL X "list.pop" stPopAt := ⟨fun pins s σ H m S S' x dx d xs ds v us I q r rs rv rvs e => by
  unfold stPopAt at e
  split at e
  · rename_i j i
    split at e
    · rename_i l q1
      split at e
      · rename_i hz
        cases q2 : seqIndex? i l.length with
        | none => rw [q2] at e; cases e
        | some k =>
          rw [q2] at e
          cases q3 : l[k]? with
          | none => dsimp only [Option.bind] at e; rw [q3] at e; cases e
          | some y =>
            dsimp only [Option.bind] at e
            rw [q3] at e
            cases e
            obtain ⟨a, rfl, ha, orr⟩ := VR.ref_at q r q1
            obtain ⟨w, rfl, rw'⟩ := rs.one
            cases rw'
            cases orr with
            | @lst vs _ hh rr =>
              obtain ⟨y', hy, ry⟩ := rr.getr q3
              obtain ⟨z1, z2⟩ := q.write (o' := .lst (vs.eraseIdx k)) (ob' := .lst (l.eraseIdx k)) ha fun e => .lst upd_same ((rr.eraseIdx k).ext e q.muts)
              exact thn (mt_popAt pins s σ H (.ref a) [.int i] v us (fun v' H' => v' = y' ∧ H' = upd H a (.lst (vs.eraseIdx k))) I rv rvs ⟨a, vs, i, k, y', rfl, rfl, hh, hz.1, hz.2, by rw [rr.length]; exact q2, hy, rfl, rfl⟩) fun _ s' ⟨v', H', I', rv', ev, eH⟩ => by
                subst ev; subst eH
                exact ⟨_, _, m, I', rv', z1, z2, ry.ext z1 q.muts⟩
      · cases e
    · cases e
  · cases e⟩
theorem list_append_ty : typeOf (.builtin "list.append") = (pure (.type "method_descriptor") : Sem Value) := PySem.F.type_list_append
theorem list_pop_ty : typeOf (.builtin "list.pop") = (pure (.type "method_descriptor") : Sem Value) := PySem.F.type_list_pop
theorem pel_append {o e : Expr} {lo : LE} {le : LE} {apos cpos : Pos} (ho : PEL X o lo) (he : PEL X e le)
    (hbase : attributeBase o "append" X.env (eval o X.env) = eval o X.env := by rfl)
    (hfew : ((backTo cpos (starEach [e] X.env)).all (fun x => !x.1) && (backToKw cpos (keywordEach [] X.env)).all (fun x => x.1.isSome)
      && decide ([e].length + ([] : List Keyword).length + (if ([] : List Keyword).isEmpty then 0 else 1) < 30)) = true := by rfl)
    (hline : (apos.endLine == cpos.line) = true := by rfl) (hs : starEach [e] X.env = (false, eval e X.env) :: starEach [] X.env := by rfl) :
    PEL X (.Call (.Attribute o "append" apos) [e] [] cpos) (lBM "list" stApp lo (aCons le aNil)) :=
  pel_bm PySem.F.plainAttrs_list PySem.F.slot_list_append list_append_ty mtl_append ho (pal_cons he pal_nil hs) hbase hfew hline hs
theorem pel_popAt {o e : Expr} {lo : LE} {le : LE} {apos cpos : Pos} (ho : PEL X o lo) (he : PEL X e le)
    (hbase : attributeBase o "pop" X.env (eval o X.env) = eval o X.env := by rfl)
    (hfew : ((backTo cpos (starEach [e] X.env)).all (fun x => !x.1) && (backToKw cpos (keywordEach [] X.env)).all (fun x => x.1.isSome)
      && decide ([e].length + ([] : List Keyword).length + (if ([] : List Keyword).isEmpty then 0 else 1) < 30)) = true := by rfl)
    (hline : (apos.endLine == cpos.line) = true := by rfl) (hs : starEach [e] X.env = (false, eval e X.env) :: starEach [] X.env := by rfl) :
    PEL X (.Call (.Attribute o "pop" apos) [e] [] cpos) (lBM "list" stPopAt lo (aCons le aNil)) :=
  pel_bm PySem.F.plainAttrs_list PySem.F.slot_list_pop list_pop_ty mtl_popAt ho (pal_cons he pal_nil hs) hbase hfew hline hs
end
end MP

namespace MP
open PySem PySem.Spec PyProof.Rows L2

/-! ### keywords -/
structure PKL (X : Cx) (kws : List Keyword) (l : LA) : Prop where
  run : ∀ (pos : Pos) (pins : List (Addr × Obj)) (s : Shared) (σ : L2.St) (H : Hp) (m : List Addr) (ρ : Ev) (S : Sto), Inv X pins σ H s → SR X.K m H S → ER X.K m H σ ρ → Hope X σ m H (l ρ S) →
    wpAny (model X.prog X.w) X.A (evalAll ((backToKw pos (keywordEach kws X.env)).map (·.2))) (APr X pins σ m H (l ρ S)) X.xe s
section
variable {X : Cx} {e : Expr} {kws : List Keyword} {l : LE} {t : LA} {nm : Option Str} {kpos : Pos}
theorem pkl_nil : PKL X [] aNil := ⟨fun pos pins s σ H m ρ S I x r hp => wpAny_evalAll_nil ⟨[], S, [], H, m, rfl, I, .nil, Ext.refl, x, .nil⟩⟩
theorem pkl_cons (he : PEL X e l) (ht : PKL X kws t) : PKL X (⟨nm, e, kpos⟩ :: kws) (aCons l t) := by
  refine ⟨fun pos pins s σ H m ρ S I x r hp => ?_⟩
  show wpAny _ _ (evalAll ((do let v ← eval e X.env; standAt pos; pure v) :: (backToKw pos (keywordEach kws X.env)).map (·.2))) _ _ s
  refine wpAny_evalAll_cons (wpAny_bind (run_seq he I x r hp fun d S1 q1 v u s1 H1 m1 I1 rv e1 x1 w1 r1 hp1 => wpAny_bind (wpAny_standAt (wpAny_pure ?_))))
  have hp2 : Hope X σ m1 H1 (t ρ S1) := hope_seq hp1
  refine thn (ht.run pos pins s1 σ H1 m1 ρ S1 I1 x1 r1 hp2) fun us s2 ⟨ds, S2, vs, H2, m2, q2, I2, rv2, e2, x2, w2⟩ => ?_
  refine ⟨d :: ds, S2, v :: vs, H2, m2, ?_, I2, .cons rv rv2, e1.trans e2, x2, .cons (w1.ext e2 x1.muts) w2⟩
  unfold aCons
  rw [q1, bind_ok, q2]
  rfl
end
/-- the values in the parameters' order -/
def pick {α : Type} (p : List Nat) (xs : List α) : List α := p.filterMap fun i => xs[i]?
theorem vals_pick {vs : List V} {us : List Value} (r : Vals vs us) : ∀ p : List Nat, Vals (pick p vs) (pick p us)
  | [] => .nil
  | i :: p => by
    unfold pick
    cases q : vs[i]? with
    | none =>
      have h : us[i]? = none := by
        rw [List.getElem?_eq_none_iff] at q ⊢
        rw [← r.length]; exact q
      rw [List.filterMap_cons_none q, List.filterMap_cons_none h]
      exact vals_pick r p
    | some v =>
      obtain ⟨u, hu, ru⟩ := r.get q
      rw [List.filterMap_cons_some q, List.filterMap_cons_some hu]
      exact .cons ru (vals_pick r p)
theorem VRs.pick {K : PySem.W.Frag} {m : List Addr} {H : Hp} {vs : List V} {ds : List D} (r : VRs K m H vs ds) : ∀ p : List Nat, VRs K m H (MP.pick p vs) (MP.pick p ds)
  | [] => .nil
  | i :: p => by
    unfold MP.pick
    cases q : ds[i]? with
    | none =>
      have h : vs[i]? = none := by
        rw [List.getElem?_eq_none_iff] at q ⊢
        rw [r.length]; exact q
      rw [List.filterMap_cons_none q, List.filterMap_cons_none h]
      exact VRs.pick r p
    | some d =>
      obtain ⟨u, hu, ru⟩ := r.getr q
      rw [List.filterMap_cons_some q, List.filterMap_cons_some hu]
      exact .cons ru (VRs.pick r p)
/-- how a call with n values by place and keywords ks binds: p the order, ds0 the values by default -/
structure KwB (K : PySem.W.Frag) (fd : FuncData) (ps : List Str) (n : Nat) (ks : List Str) (p : List Nat) (ds0 : List Value) : Prop where
  to : ∀ (s : Shared) (us ws : List Value), K.In s.heap → us.length = n → ws.length = ks.length → BindsTo s fd ⟨us, ks.zip ws⟩ (ps.zip (pick p (us ++ ws ++ ds0)))
  len : ∀ {α : Type} (xs : List α), xs.length = n + ks.length + ds0.length → (pick p xs).length = ps.length
theorem pick_len {α : Type} : ∀ (p : List Nat) (xs : List α), p.all (fun i => decide (i < xs.length)) = true → (pick p xs).length = p.length
  | [], xs, _ => rfl
  | i :: p, xs, h => by
    rw [List.all_cons, Bool.and_eq_true] at h
    have hi := of_decide_eq_true h.1
    unfold pick
    rw [List.filterMap_cons_some (List.getElem?_eq_getElem hi), List.length_cons]
    exact congrArg Nat.succ (pick_len p xs h.2)
theorem kwb {K : PySem.W.Frag} {x qual : Str} {st : Stmt} {f : Addr} {fd : FuncData} {ps ks : List Str} {n : Nat} {p : List Nat} (F : Fun K x qual st f fd) (hp : p.length = ps.length) (ha : p.all (fun i => decide (i < n + ks.length)) = true)
    (h : ∀ (kV doc pm : Value) (an : Option Addr) (cdv ct : Value) (us ws : List Value), us.length = n → ws.length = ks.length → bindArgs (PySem.W.fnOf x qual (defArgs st) (defBody st) (defScope st) .none kV doc pm an cdv ct) ⟨us, ks.zip ws⟩ = pure (ps.zip (pick p (us ++ ws)))) : KwB K fd ps n ks p [] := by
  obtain ⟨oc, od, kV, doc, pm, an, cdv, ct, osl, rfl, lk, hcd⟩ := F.ex
  refine ⟨fun s us ws _ l1 l2 => ?_, fun xs hx => ?_⟩
  · rw [List.append_nil]
    exact .of_eq (h kV doc pm an cdv ct us ws l1 l2)
  · rw [← hp]
    exact pick_len p xs (by rw [hx]; exact ha)

section
variable {X : Cx} {e : Expr} {pos p : Pos} {es : List Expr} {kws : List Keyword} {t tk : LA} {x : Str} {k n : Nat} {f C : Addr} {fd : FuncData} {ps ks : List Str} {g : F}
theorem run_fnK {pins : List (Addr × Obj)} {σ : L2.St} {H : Hp} {s : Shared} {full : List Value} {args : Args} {vs : List V} {m : List Addr} {S : Sto} {ds : List D} (Fn : FnL X.prog X.w X.K X.mg X.base k f fd ps g) (hr : Room k X.A) (hb : BindsTo s fd args (ps.zip full))
    (I : Inv X pins σ H s) (x : SR X.K m H S) (r : Vals vs full) (rd : VRs X.K m H vs ds) (hl : vs.length = ps.length) (hp : Hope X σ m H (g ds S)) :
    wpAny (model X.prog X.w) X.A (call (.ref f) args.pos args.kw) (VPr X pins σ m H (g ds S)) X.xe s := by
  have hsp : spL X.K g ps.length vs H (fun v H' => ∃ d S', g ds S = .ok d S' ∧ QV X.K m H S' d v H') (fun cls d H' => ∃ C fs S', g ds S = .exc C fs S' ∧ WL X.K m H C fs S' cls d H') :=
    ⟨hl, m, S, ds, x, rd, hp.1, fun d S' q v H' z => ⟨d, S', q, z⟩, fun C fs S' q cls d H' z => ⟨C, fs, S', q, z⟩⟩
  refine wpAny_call (codeAny_mono (Fn.run X.A X.stack s H args full vs _ _ hr I.env0 hb r hsp) fun r s' hq => ?_)
  cases r with
  | error e =>
    cases q : g ds S with
    | bad => rw [q] at hp; exact absurd rfl hp.1
    | ok d S' =>
      obtain ⟨_, _, _, _, _, _, _, _, _, _, _, _, C, fs, S', q', _⟩ := hq
      rw [q] at q'; cases q'
    | exc C fs S' =>
      refine hp.2 C fs S' q e s' (XE.of_call I (fun cls d H' w => ?_) hq)
      obtain ⟨C', fs', S'', q', w⟩ := w
      rw [q] at q'; cases q'
      exact ⟨rfl, w⟩
  | ok fl =>
    cases fl with
    | ret u =>
      obtain ⟨v, H', I', rv, d, S', q, m', e, x', w⟩ := I.after hq
      exact ⟨d, S', q, v, H', m', I', rv, e, x', w⟩
    | next => exact False.elim hq
    | brk => exact False.elim hq
    | cont => exact False.elim hq
/-- what is bound: the values by place, the keywords', those by default -/
def kwF (n m : Nat) (g : F) (pk : List Nat) (dd : List D) (ds es : List D) (S : Sto) : R D := if ds.length = n ∧ es.length = m then g (pick pk (ds ++ es ++ dd)) S else .bad
def lCallK (n m : Nat) (g : F) (pk : List Nat) (dd : List D) (t tk : LA) : LE := fun ρ S => (t ρ S).bind fun ds S1 => (tk ρ S1).bind fun es S2 => kwF n m g pk dd ds es S2
theorem pel_callKw {pk : List Nat} {ds0 : List Value} {dvs : List V} {dd : List D} (Fn : FnL X.prog X.w X.K X.mg X.base k f fd ps g) (hr : Room k X.A) (hg : Gl X x) (hm : X.mg x = some (.ref f)) (hk : PySem.W.keepIn X.K (.ref f) = true) (hb : KwB X.K fd ps n ks pk ds0) (hd : Dfl X.K dvs ds0 dd)
    (ha : PAL X (e :: es) t) (hkw : PKL X kws tk) (hall : (backToKw pos (keywordEach kws X.env)).all (·.1.isSome) = true := by rfl) (hks : (backToKw pos (keywordEach kws X.env)).filterMap (·.1) = ks := by rfl)
    (hdb : (x == ("__debug__" : Str)) = false := by decide) (he : starEach (e :: es) X.env = (false, eval e X.env) :: starEach es X.env := by rfl)
    (hpl : ((backTo pos (starEach (e :: es) X.env)).any (·.1) || (backToKw pos (keywordEach kws X.env)).any (·.1.isNone)) = false := by rfl) :
    PEL X (.Call (.Name x p) (e :: es) kws pos) (lCallK n ks.length g pk dd t tk) := by
  refine ⟨fun pins s σ H m ρ S I x r hp => ?_⟩
  refine wpAny_Call_Name_kw (ld_glob I hg hm ?_ hdb)
  refine PySem.W.callWith_KW (h₀ := X.base) I.ok.mod.kin hk hall (run_seqA ha I x r hp fun ds S1 q1 vs us s1 H1 m1 I1 rv e1 x1 w1 r1 hp1 => ?_) hpl he
  refine thn (hkw.run pos pins s1 σ H1 m1 ρ S1 I1 x1 r1 (hope_seq hp1)) fun ws s2 ⟨zs, S2, zv, H2, m2, q2, I2, rv2, e2, x2, w2⟩ => ⟨I2.kIn, ?_⟩
  rw [q2] at hp1
  have hp2 : Hope X σ m2 H2 (kwF n ks.length g pk dd ds zs S2) := hp1.ext e2
  have hl := hope_if hp2
  unfold kwF at hp2
  rw [if_pos hl] at hp2
  have e0 : lCallK n ks.length g pk dd t tk ρ S = g (pick pk (ds ++ zs ++ dd)) S2 := by unfold lCallK; rw [q1, bind_ok, q2, bind_ok]; unfold kwF; rw [if_pos hl]
  rw [e0, hks]
  have l1 : us.length = n := by rw [← rv.length, w1.length]; exact hl.1
  have l2 : ws.length = ks.length := by rw [← rv2.length, w2.length]; exact hl.2
  have r3 : Vals (vs ++ zv ++ dvs) (us ++ ws ++ ds0) := (rv.append rv2).append hd.vals
  refine thn (run_fnK (args := ⟨us, ks.zip ws⟩) Fn hr (hb.to s2 us ws I2.kIn l1 l2) I2 x2 (vals_pick r3 pk) ((((w1.ext e2 x1.muts).append w2).append (hd.rel _ _)).pick pk) (hb.len _ ?_) hp2) fun _ _ z => z.left (e1.trans e2)
  rw [r3.length, List.length_append, List.length_append, l1, l2]
theorem pel_callKw0 {pk : List Nat} {ds0 : List Value} {dvs : List V} {dd : List D} (Fn : FnL X.prog X.w X.K X.mg X.base k f fd ps g) (hr : Room k X.A) (hg : Gl X x) (hm : X.mg x = some (.ref f)) (hk : PySem.W.keepIn X.K (.ref f) = true) (hb : KwB X.K fd ps 0 ks pk ds0) (hd : Dfl X.K dvs ds0 dd)
    (hkw : PKL X kws tk) (hall : (backToKw pos (keywordEach kws X.env)).all (·.1.isSome) = true := by rfl) (hks : (backToKw pos (keywordEach kws X.env)).filterMap (·.1) = ks := by rfl)
    (hdb : (x == ("__debug__" : Str)) = false := by decide)
    (hpl : ((backTo pos (starEach [] X.env)).any (·.1) || (backToKw pos (keywordEach kws X.env)).any (·.1.isNone)) = false := by rfl) :
    PEL X (.Call (.Name x p) [] kws pos) (lCallK 0 ks.length g pk dd aNil tk) := by
  refine ⟨fun pins s σ H m ρ S I x r hp => ?_⟩
  refine wpAny_Call_Name_kw (ld_glob I hg hm ?_ hdb)
  refine PySem.W.callWith_KW0 (h₀ := X.base) I.ok.mod.kin hk hall ?_ hpl
  have hp1 : Hope X σ m H ((tk ρ S).bind fun es S2 => kwF 0 ks.length g pk dd [] es S2) := hp
  refine thn (hkw.run pos pins s σ H m ρ S I x r (hope_seq hp1)) fun ws s2 ⟨zs, S2, zv, H2, m2, q2, I2, rv2, e2, x2, w2⟩ => ⟨I2.kIn, ?_⟩
  rw [q2] at hp1
  have hp2 : Hope X σ m2 H2 (kwF 0 ks.length g pk dd [] zs S2) := hp1.ext e2
  have hl := hope_if hp2
  unfold kwF at hp2
  rw [if_pos hl] at hp2
  have e0 : lCallK 0 ks.length g pk dd aNil tk ρ S = g (pick pk ([] ++ zs ++ dd)) S2 := by
    show ((tk ρ S).bind fun es S2 => kwF 0 ks.length g pk dd [] es S2) = _
    rw [q2, bind_ok]; unfold kwF; rw [if_pos hl]
  rw [e0, hks]
  have l2 : ws.length = ks.length := by rw [← rv2.length, w2.length]; exact hl.2
  have r3 : Vals ([] ++ zv ++ dvs) ([] ++ ws ++ ds0) := ((show Vals ([] : List V) [] from .nil).append rv2).append hd.vals
  refine thn (run_fnK (args := ⟨[], ks.zip ws⟩) Fn hr (hb.to s2 [] ws I2.kIn rfl l2) I2 x2 (vals_pick r3 pk) (((VRs.nil.append w2).append (hd.rel _ _)).pick pk) (hb.len _ ?_) hp2) fun _ _ z => z.left e2
  rw [r3.length, List.length_append, List.length_append, l2]
  rfl
theorem run_makeK {pins : List (Addr × Obj)} {σ : L2.St} {H : Hp} {s : Shared} {us : List Value} {kwv : List (Str × Value)} {full : List Value → List Value} {vs : List V} {m : List Addr} {S : Sto} {ds : List D} {gn : F} {fv : List V → List V} {fdd : List D → List D} (M : Mk X.K C f) (Fn : FnL X.prog X.w X.K X.mg X.base k f fd ps g) (hr : Room (k + 1) X.A)
    (hb : ∀ s a, X.K.In s.heap → BindsTo s fd ⟨.ref a :: us, kwv⟩ (ps.zip (full [.ref a]))) (hv : ∀ a, Vals (fv [.ref a]) (full [.ref a])) (hds : ∀ a n m H, VR X.K m H (.ref a) (.ref n) → VRs X.K m H vs ds → VRs X.K m H (fv [.ref a]) (fdd [.ref n])) (hlen : ∀ a, (fv [.ref a]).length = ps.length)
    (I : Inv X pins σ H s) (x : SR X.K m H S) (rd : VRs X.K m H vs ds) (hg : RLe S (gn ds S) ((g (fdd [.ref S.length]) (S ++ [.ins C []])).bind fun d S1 => match d with
      | .non => .ok (.ref S.length) S1
      | _ => .bad)) (hp : Hope X σ m H (gn ds S)) :
    wpAny (model X.prog X.w) X.A (call (.ref C) us kwv) (VPr X pins σ m H (gn ds S)) X.xe s := by
  obtain ⟨pd, hpd⟩ : ∃ a, a = s.heap.objs.size := ⟨_, rfl⟩
  obtain ⟨pa, hpa⟩ : ∃ a, a = s.heap.objs.size + 1 := ⟨_, rfl⟩
  have n1 : H pa = none := hpa ▸ I.hok.fresh (Nat.le_succ _)
  have n2 : H pd = none := hpd ▸ I.hok.fresh (Nat.le_refl _)
  have ne : pa ≠ pd := by omega
  have I2 := Inv.made (C := C) I
  rw [← hpa, ← hpd] at I2
  have n1' : (upd H pd (.own pa)) pa = none := by rw [upd_ne ne]; exact n1
  have x1 : SR X.K m (upd H pd (.own pa)) S := x.fresh n2
  have E1 : Ext m H m (upd H pd (.own pa)) := Ext.fresh n2
  obtain ⟨E2, x2⟩ := x1.snoc (o := .ins C pd []) (ob := .ins C []) n1' fun m' H' _ q => .ins q .nil
  have E3 := E1.trans E2
  have rd2 := hds pa S.length (m ++ [pa]) (upd (upd H pd (.own pa)) pa (.ins C pd [])) (.ref (by rw [← x.len]; simp)) (rd.ext E3 x.muts)
  generalize hG : g (fdd [.ref S.length]) (S ++ [.ins C []]) = G at hg
  have nb : G ≠ .bad := fun z => by
    rw [z] at hg
    generalize gn ds S = A at hg hp
    cases hg with
    | bad => exact hp.1 rfl
    | refl => exact hp.1 rfl
  have hsp : spL X.K g ps.length (fv [.ref pa]) (upd (upd H pd (.own pa)) pa (.ins C pd [])) (fun v H' => ∃ d S', G = .ok d S' ∧ QV X.K (m ++ [pa]) (upd (upd H pd (.own pa)) pa (.ins C pd [])) S' d v H')
      (fun cls d H' => ∃ C' fs S', G = .exc C' fs S' ∧ WL X.K (m ++ [pa]) (upd (upd H pd (.own pa)) pa (.ins C pd [])) C' fs S' cls d H') := by
    refine ⟨hlen pa, _, _, _, x2, rd2, ?_, ?_, ?_⟩
    · rw [hG]; exact nb
    · intro d S' q v H' z
      rw [hG] at q
      exact ⟨d, S', q, z⟩
    · intro C' fs S' q cls d H' z
      rw [hG] at q
      exact ⟨C', fs, S', q, z⟩
  refine wpAny_call (make_map (f := f) I.kIn M.makes M.init (beq_iff_eq.mp M.fn) ?_)
  rw [← hpa, ← hpd]
  refine codeAny_mono (Fn.run _ X.stack _ _ ⟨Value.ref pa :: us, kwv⟩ _ _ _ _ (hr.make C us kwv) (I2.env0.make C us kwv) (hb _ pa I2.kIn) (hv pa) hsp) fun r s' hq => ?_
  cases r with
  | error e =>
    obtain ⟨C', fs, S', q, w0⟩ : ∃ C' fs S', G = .exc C' fs S' ∧ XE X (fun cls d σ' H' => σ' = σ ∧ WL X.K m H C' fs S' cls d H') e s' := by
      have hx := XE.of_call (W := fun cls d σ' H' => σ' = σ ∧ ∃ C' fs S', G = .exc C' fs S' ∧ WL X.K m H C' fs S' cls d H') I2 (fun cls d H' w => by
        obtain ⟨C', fs, S', q, w⟩ := w
        exact ⟨rfl, C', fs, S', q, w.ext E3⟩) hq
      obtain ⟨_, _, _, _, _, _, _, _, _, _, _, _, _, _, _, _, _, C', fs, S', q, _⟩ := id hx
      refine ⟨C', fs, S', q, XE.imp hx fun cls d σ' H' w => ?_⟩
      obtain ⟨w1, C2, fs2, S2, q2, w2⟩ := w
      rw [q] at q2
      cases q2
      exact ⟨w1, w2⟩
    subst q
    dsimp only [R.bind] at hg
    generalize hA : gn ds S = A at hg hp
    cases hg with
    | bad => exact absurd rfl hp.1
    | refl => exact hp.2 _ _ _ rfl e s' w0
    | gcx _ _ _ h b => exact hp.2 _ _ _ rfl e s' (XE.imp w0 fun cls d σ' H' w => ⟨w.1, wl_gc x w.2 h b⟩)
  | ok fl =>
    cases fl with
    | ret u =>
      obtain ⟨v, H', I3, rv, d, S', q, m', e', x', w'⟩ := I2.after hq
      subst q
      have hn : d = .non := by
        cases d with
        | non => rfl
        | _ =>
          dsimp only [R.bind] at hg
          generalize gn ds S = A at hg hp
          cases hg with
          | bad => exact absurd rfl hp.1
          | refl => exact absurd rfl hp.1
      subst hn
      cases w'
      obtain rfl : u = Value.none := rv
      have qv : QV X.K m H S' (.ref S.length) (.ref pa) H' := ⟨m', E3.trans e', x', .ref (e'.get (by rw [← x.len]; simp))⟩
      refine ⟨rfl, ?_⟩
      dsimp only [R.bind] at hg
      generalize hA : gn ds S = A at hg hp
      cases hg with
      | bad => exact absurd rfl hp.1
      | refl =>
        obtain ⟨m2, z1, z2, z3⟩ := qv
        exact ⟨_, _, rfl, .ref pa, H', m2, I3, rfl, z1, z2, z3⟩
      | gc _ _ _ h e b =>
        subst e
        obtain ⟨m2, z1, z2, z3⟩ := qv_gc x qv h b
        exact ⟨_, _, rfl, .ref pa, H', m2, I3, rfl, z1, z2, z3⟩
    | next => exact False.elim hq
    | brk => exact False.elim hq
    | cont => exact False.elim hq
/-- C(k = v, ..): the values in the order of __init__'s parameters behind self; pk: where they stand, self being 0 -/
def kwM (m : Nat) (gn : F) (es : List D) (S : Sto) : R D := if es.length = m then gn es S else .bad
theorem pel_makeKw0 {pk : List Nat} {ds0 : List Value} {dvs : List V} {dd : List D} {gm : F} (M : Mk X.K C f) (Fn : FnL X.prog X.w X.K X.mg X.base k f fd ps g) (hr : Room (k + 1) X.A) (hg : Gl X x) (hm : X.mg x = some (.ref C)) (hb : KwB X.K fd ps 1 ks pk ds0) (hd : Dfl X.K dvs ds0 dd)
    (hgm : ∀ es S, es.length = ks.length → RLe S (gm es S) ((g (pick pk (.ref S.length :: es ++ dd)) (S ++ [.ins C []])).bind fun d S1 => match d with
      | .non => .ok (.ref S.length) S1
      | _ => .bad))
    (hkw : PKL X kws tk) (hall : (backToKw pos (keywordEach kws X.env)).all (·.1.isSome) = true := by rfl) (hks : (backToKw pos (keywordEach kws X.env)).filterMap (·.1) = ks := by rfl)
    (hdb : (x == ("__debug__" : Str)) = false := by decide)
    (hpl : ((backTo pos (starEach [] X.env)).any (·.1) || (backToKw pos (keywordEach kws X.env)).any (·.1.isNone)) = false := by rfl) :
    PEL X (.Call (.Name x p) [] kws pos) (fun ρ S => (tk ρ S).bind fun es S2 => kwM ks.length gm es S2) := by
  refine ⟨fun pins s σ H m ρ S I x r hp => ?_⟩
  refine wpAny_Call_Name_kw (ld_glob I hg hm ?_ hdb)
  refine PySem.W.callWith_KW0 (h₀ := X.base) I.ok.mod.kin M.kp hall ?_ hpl
  refine thn (hkw.run pos pins s σ H m ρ S I x r (hope_seq hp)) fun ws s2 ⟨zs, S2, zv, H2, m2, q2, I2, rv2, e2, x2, w2⟩ => ⟨I2.kIn, ?_⟩
  rw [q2] at hp ⊢
  have hp2 : Hope X σ m2 H2 (kwM ks.length gm zs S2) := hp.ext e2
  have hl := hope_if hp2
  unfold kwM at hp2
  rw [if_pos hl] at hp2
  have e0 : ((R.ok zs S2).bind fun es S2 => kwM ks.length gm es S2) = gm zs S2 := by show kwM ks.length gm zs S2 = _; unfold kwM; rw [if_pos hl]
  rw [e0, hks]
  have l2 : ws.length = ks.length := by rw [← rv2.length, w2.length]; exact hl
  refine thn (run_makeK (us := []) (kwv := ks.zip ws) (full := fun a => pick pk (a ++ ws ++ ds0)) (vs := zv) (ds := zs) (fv := fun a => pick pk (a ++ zv ++ dvs)) (fdd := fun n => pick pk (n ++ zs ++ dd)) (gn := gm) M Fn hr (fun s a hi => hb.to s [.ref a] ws hi rfl l2)
    (fun a => vals_pick (((show Vals [V.ref a] [Value.ref a] from .cons rfl .nil).append rv2).append hd.vals) pk) (fun a n m H h r => (((VRs.cons h .nil).append r).append (hd.rel _ _)).pick pk) (fun a => hb.len _ ?_) I2 x2 w2 (hgm zs S2 hl) hp2) fun _ _ z => z.left e2
  rw [List.length_append, List.length_append, rv2.length, l2, hd.vals.length]
  rfl
end
end MP

namespace MP
open PySem PySem.Spec PyProof.Rows L2
section
variable {X : Cx}
def gAdd : G2 := fun S x y => ((gAddI S x y).or (gAddS S x y)).or (gCat S x y)
theorem opl_add : OpL X (binaryOp .Add) gAdd := (opl_addI.or opl_addS).or opl_catT
theorem opl_mul : OpL X (binaryOp .Mult) gMulI := opl_mulI
end
end MP

namespace MP
open PySem PySem.Spec PyProof.Rows L2
theorem lg_lt {i : Int} {k : Nat} (h : i.natAbs < 2 ^ k) (hk : 0 < k) : i.natAbs.log2 < k := by
  by_cases z : i.natAbs = 0
  · rw [z]; simpa using hk
  · exact (Nat.log2_lt z).mpr h
theorem abs_lt {i : Int} {n : Nat} (h1 : -(n : Int) < i) (h2 : i < n) : i.natAbs < n := by omega
/-- a number of at most 600 figures -/
def Sm (i : Int) : Prop := -(10 ^ 250) < i ∧ i < 10 ^ 250
theorem Sm.lg {i : Int} (h : Sm i) : i.natAbs.log2 < 900 := by
  refine lg_lt (Nat.lt_of_lt_of_le (abs_lt (n := 10 ^ 250) ?_ ?_) (by decide +kernel)) (by decide)
  · have := h.1; simpa using this
  · have := h.2; simpa using this
theorem Sm.of {i : Int} (h0 : 0 ≤ i) {n : Int} (h1 : i < n) (hn : n ≤ 10 ^ 250) : Sm i := by
  have : (0 : Int) < 10 ^ 250 := by decide +kernel
  exact ⟨by omega, by omega⟩
theorem mul_ii {S : Sto} {i j : Int} (h : Sm i) (h' : Sm j) : gMulI S (.int i) (.int j) = some (.int (i * j)) := by
  have a := h.lg
  have b := h'.lg
  show (if i.natAbs.log2 + j.natAbs.log2 < 1000000 then some (D.int (i * j)) else none) = _
  rw [if_pos (by omega)]
theorem div_ii {S : Sto} {i j : Int} (h0 : 0 < j) (h : Sm j) : gDiv S (.int i) (.int j) = some (.int (i / j)) := by
  have a := h.lg
  show (if 0 < j ∧ j.natAbs.log2 < 9000 then some (D.int (i / j)) else none) = _
  rw [if_pos ⟨h0, by omega⟩]
theorem mod_ii {S : Sto} {i j : Int} (h0 : 0 < j) : gMod S (.int i) (.int j) = some (.int (i % j)) := by
  show (if 0 < j then some (D.int (i % j)) else none) = _
  rw [if_pos h0]
theorem pow_ii {S : Sto} {i j : Int} (h : 0 ≤ j ∧ j ≤ 1000000 ∧ i.natAbs < 2 ^ 64) : gPow S (.int i) (.int j) = some (.int (i ^ j.toNat)) := by
  show (if 0 ≤ j ∧ j ≤ 1000000 ∧ i.natAbs < 2 ^ 64 then some (D.int (i ^ j.toNat)) else none) = _
  rw [if_pos h]
theorem add_ii {S : Sto} {i j : Int} : gAdd S (.int i) (.int j) = some (.int (i + j)) := rfl
theorem add_ss {S : Sto} {i j : Str} (h : i.length + j.length ≤ sizeLine) : gAdd S (.str i) (.str j) = some (.str (i ++ j)) := by
  show ((if i.length + j.length ≤ sizeLine then some (D.str (i ++ j)) else none).or (gCat S (.str i) (.str j))) = _
  rw [if_pos h]; rfl
theorem eq_ii {S : Sto} {i j : Int} : gEq S (.int i) (.int j) = some (.bl (decide (i = j))) := rfl
theorem ne_ii {S : Sto} {i j : Int} : gNe S (.int i) (.int j) = some (.bl (!decide (i = j))) := rfl
theorem eq_ss {S : Sto} {i j : Str} : gEq S (.str i) (.str j) = some (.bl (decide (i = j))) := rfl
theorem ne_ss {S : Sto} {i j : Str} : gNe S (.str i) (.str j) = some (.bl (!decide (i = j))) := rfl
theorem eq_bb {S : Sto} {i j : Bool} : gEq S (.bl i) (.bl j) = some (.bl (decide (i = j))) := rfl
theorem eqv2 {a b c d : Int} : PyData.eqv (.tuple [.int a, .int b]) (.tuple [.int c, .int d]) = decide (a = c ∧ b = d) := by
  rw [Bool.eq_iff_iff]; simp [PyData.eqv, PyData.eqvAll]
theorem eq_t2 {S : Sto} {a b c d : Int} : gEq S (.tup [.int a, .int b]) (.tup [.int c, .int d]) = some (.bl (decide (a = c ∧ b = d))) := by
  show ((if SeqAt.shaped (.tuple [.int a, .int b]) = true ∧ SeqAt.shaped (.tuple [.int c, .int d]) = true then some (PyData.eqv (.tuple [.int a, .int b]) (.tuple [.int c, .int d])) else none).map D.bl) = _
  rw [if_pos ⟨by rfl, by rfl⟩, eqv2]; rfl
theorem ne_t2 {S : Sto} {a b c d : Int} : gNe S (.tup [.int a, .int b]) (.tup [.int c, .int d]) = some (.bl (!decide (a = c ∧ b = d))) := by
  show ((if SeqAt.shaped (.tuple [.int a, .int b]) = true ∧ SeqAt.shaped (.tuple [.int c, .int d]) = true then some (PyData.eqv (.tuple [.int a, .int b]) (.tuple [.int c, .int d])) else none).map fun b => D.bl (!b)) = _
  rw [if_pos ⟨by rfl, by rfl⟩, eqv2]; rfl
/-! ### how the words compute -/
theorem bin_ok {g : G2} {la lb : LE} {ρ : Ev} {S S1 S2 : Sto} {x y d : D} (h1 : la ρ S = .ok x S1) (h2 : lb ρ S1 = .ok y S2) (h3 : g S2 x y = some d) : lBin g la lb ρ S = .ok d S2 := by
  unfold lBin; rw [h1, bind_ok, h2, bind_ok, h3]; rfl
theorem tru_ok {l : LE} {ρ : Ev} {S S1 : Sto} {d : D} {b : Bool} (h1 : l ρ S = .ok d S1) (h2 : truth S1 d = some b) : tTru l ρ S = .ok b S1 := by
  unfold tTru; rw [h1, bind_ok, h2]; rfl
theorem acons_ok {l : LE} {t : LA} {ρ : Ev} {S S1 S2 : Sto} {d : D} {ds : List D} (h1 : l ρ S = .ok d S1) (h2 : t ρ S1 = .ok ds S2) : aCons l t ρ S = .ok (d :: ds) S2 := by
  unfold aCons; rw [h1, bind_ok, h2]; rfl
theorem callb_ok {g : GC} {t : LA} {ρ : Ev} {S S1 : Sto} {d : D} {ds : List D} (h1 : t ρ S = .ok ds S1) (h2 : g S1 ds = some d) : lCallB g t ρ S = .ok d S1 := by
  unfold lCallB; rw [h1, bind_ok, h2]; rfl
theorem call_ok {g : F} {n : Nat} {t : LA} {ρ : Ev} {S S1 : Sto} {ds dd : List D} {r : R D} (h1 : t ρ S = .ok ds S1) (h2 : ds.length + dd.length = n) (h3 : g (ds ++ dd) S1 = r) : lCall n g dd t ρ S = r := by
  unfold lCall; rw [h1, bind_ok, if_pos h2, h3]
theorem tup_ok {t : LA} {ρ : Ev} {S S1 : Sto} {ds : List D} (h1 : t ρ S = .ok ds S1) (h : ds.length ≤ 1000) : lTup t ρ S = .ok (.tup ds) S1 := by
  unfold lTup; rw [h1, bind_ok, if_pos (Nat.le_trans h (by decide))]
theorem lst_ok {t : LA} {ρ : Ev} {S S1 : Sto} {ds : List D} (h1 : t ρ S = .ok ds S1) (h : ds.length ≤ 1000) : lLst t ρ S = .ok (.lst ds) S1 := by
  unfold lLst; rw [h1, bind_ok, if_pos (Nat.le_trans h (by decide))]
theorem lstN_ok {t : LA} {ρ : Ev} {S S1 : Sto} {ds : List D} (h1 : t ρ S = .ok ds S1) (h : ds.length ≤ 1000) : lLstN t ρ S = .ok (.ref S1.length) (S1 ++ [.lst ds]) := by
  unfold lLstN; rw [h1, bind_ok, if_pos (Nat.le_trans h (by decide))]
theorem fld_ok {C : Addr} {f : Str} {l : LE} {ρ : Ev} {S S1 : Sto} {d e : D} (h1 : l ρ S = .ok d S1) (h2 : gFld C f S1 d = some e) : lFld C f l ρ S = .ok e S1 := by
  unfold lFld; rw [h1, bind_ok, h2]; rfl
theorem set_ok {i : Nat} {l : LE} {ρ : Ev} {S S1 : Sto} {d : D} (h : l ρ S = .ok d S1) : lSet i l ρ S = .ok (.nx (ρ.set i (some d))) S1 := by
  unfold lSet; rw [h]; rfl
theorem ret_ok {l : LE} {ρ : Ev} {S S1 : Sto} {d : D} (h : l ρ S = .ok d S1) : lRet l ρ S = .ok (.rt d) S1 := by
  unfold lRet; rw [h]; rfl
theorem expr_ok {l : LE} {ρ : Ev} {S S1 : Sto} {d : D} (h : l ρ S = .ok d S1) : lExpr l ρ S = .ok (.nx ρ) S1 := by
  unfold lExpr; rw [h]; rfl
theorem seq_nx {l1 l2 : LS} {ρ ρ' : Ev} {S S1 : Sto} {r : R Fl} (h : l1 ρ S = .ok (.nx ρ') S1) (h2 : l2 ρ' S1 = r) : lSeq l1 l2 ρ S = r := by
  unfold lSeq; rw [h, bind_ok]; exact h2
theorem seq_rt {l1 l2 : LS} {ρ : Ev} {S S1 : Sto} {d : D} (h : l1 ρ S = .ok (.rt d) S1) : lSeq l1 l2 ρ S = .ok (.rt d) S1 := by
  unfold lSeq; rw [h, bind_ok]; rfl
theorem if_tt {tc : LT} {l1 l2 : LS} {ρ : Ev} {S S1 : Sto} {r : R Fl} (h : tc ρ S = .ok true S1) (h2 : l1 ρ S1 = r) : lIfS tc l1 l2 ρ S = r := by
  unfold lIfS; rw [h]; exact h2
theorem if_ff {tc : LT} {l1 l2 : LS} {ρ : Ev} {S S1 : Sto} {r : R Fl} (h : tc ρ S = .ok false S1) (h2 : l2 ρ S1 = r) : lIfS tc l1 l2 ρ S = r := by
  unfold lIfS; rw [h]; exact h2
theorem par_ok {i j : Nat} {t : LA} {ρ : Ev} {S S1 : Sto} {a b : D} (h : t ρ S = .ok [a, b] S1) : lPar i j t ρ S = .ok (.nx ((ρ.set i (some a)).set j (some b))) S1 := by
  unfold lPar; rw [h]; rfl
theorem stS_ok {g : Sto → D → D → D → Option Sto} {lo li le : LE} {ρ : Ev} {S S1 S2 S3 S4 : Sto} {d r k : D} (h1 : le ρ S = .ok d S1) (h2 : lo ρ S1 = .ok r S2) (h3 : li ρ S2 = .ok k S3) (h4 : g S3 r k d = some S4) : lStS g lo li le ρ S = .ok (.nx ρ) S4 := by
  unfold lStS; rw [h1]; show liftX ρ (lo ρ S1) _ = _; rw [h2]; show liftX ρ (li ρ S2) _ = _; rw [h3]; show liftS _ ρ = _; rw [h4]; rfl
theorem stF_ok {C : Addr} {f : Str} {lo le : LE} {ρ : Ev} {S S1 S2 S3 : Sto} {d r : D} (h1 : le ρ S = .ok d S1) (h2 : lo ρ S1 = .ok r S2) (h3 : stFld C f S2 r d = some S3) : lStF C f lo le ρ S = .ok (.nx ρ) S3 := by
  unfold lStF; rw [h1]; show liftX ρ (lo ρ S1) _ = _; rw [h2]; show liftS _ ρ = _; rw [h3]; rfl
theorem bm_ok {T : String} {g : GM} {lo : LE} {t : LA} {ρ : Ev} {S S1 S2 S3 : Sto} {d e : D} {ds : List D} (h1 : lo ρ S = .ok d S1) (h2 : isTy T S1 d = true) (h3 : t ρ S1 = .ok ds S2) (h4 : g S2 d ds = some (e, S3)) : lBM T g lo t ρ S = .ok e S3 := by
  unfold lBM; rw [h1, bind_ok, if_pos h2, h3, bind_ok, h4]; rfl
theorem meth_ok {C : Addr} {mn : Str} {n : Nat} {g : F} {lo : LE} {t : LA} {ρ : Ev} {S S1 S2 : Sto} {d : D} {ds dd : List D} {r : R D} (h1 : lo ρ S = .ok d S1) (h2 : recv C mn S1 d = true) (h3 : t ρ S1 = .ok ds S2) (h4 : (ds.length + dd.length) + 1 = n) (h5 : g (d :: (ds ++ dd)) S2 = r) : lMeth C mn n g dd lo t ρ S = r := by
  unfold lMeth; rw [h1, bind_ok, if_pos h2, h3, bind_ok, if_pos h4, h5]
theorem body_rt {n : Nat} {lb : LS} {ds : List D} {S S' : Sto} {d : D} (h : lb (ds.map some ++ List.replicate (n - ds.length) none) S = .ok (.rt d) S') : bodyF n lb ds S = .ok d S' := by
  unfold bodyF; rw [h]; rfl
theorem body_nx {n : Nat} {lb : LS} {ds : List D} {ρ : Ev} {S S' : Sto} (h : lb (ds.map some ++ List.replicate (n - ds.length) none) S = .ok (.nx ρ) S') : bodyF n lb ds S = .ok .non S' := by
  unfold bodyF; rw [h]; rfl
theorem and_tt {ta tb : LT} {ρ : Ev} {S S1 : Sto} {r : R Bool} (h : ta ρ S = .ok true S1) (h2 : tb ρ S1 = r) : tAnd ta tb ρ S = r := by
  unfold tAnd; rw [h, bind_ok, if_pos rfl]; exact h2
theorem and_ff {ta tb : LT} {ρ : Ev} {S S1 : Sto} (h : ta ρ S = .ok false S1) : tAnd ta tb ρ S = .ok false S1 := by
  unfold tAnd; rw [h, bind_ok]; rfl
theorem or_tt {ta tb : LT} {ρ : Ev} {S S1 : Sto} (h : ta ρ S = .ok true S1) : tOr ta tb ρ S = .ok true S1 := by
  unfold tOr; rw [h, bind_ok]; rfl
theorem or_ff {ta tb : LT} {ρ : Ev} {S S1 : Sto} {r : R Bool} (h : ta ρ S = .ok false S1) (h2 : tb ρ S1 = r) : tOr ta tb ρ S = r := by
  unfold tOr; rw [h, bind_ok]; exact h2
theorem not_ok {ta : LT} {ρ : Ev} {S S1 : Sto} {b : Bool} (h : ta ρ S = .ok b S1) : tNot ta ρ S = .ok (!b) S1 := by
  unfold tNot; rw [h, bind_ok]
theorem while_go {ρ0 ρ : Ev} {tc : LT} {lb : LS} {n : Nat} {S S1 S2 : Sto} {ρ' : Ev} {r : R Fl} (h : tc ρ S = .ok true S1) (h2 : lb ρ S1 = .ok (.nx ρ') S2) (h3 : whileG ρ0 tc lb n (wk ρ0 ρ') S2 = r) : whileG ρ0 tc lb (n + 1) ρ S = r := by
  unfold whileG; rw [h]; show (lb ρ S1).bind _ = _; rw [h2, bind_ok]; exact h3
theorem while_end {ρ0 ρ : Ev} {tc : LT} {lb : LS} {n : Nat} {S S1 : Sto} (h : tc ρ S = .ok false S1) : whileG ρ0 tc lb (n + 1) ρ S = .ok (.nx ρ) S1 := by
  unfold whileG; rw [h]; rfl
theorem for_go {ρ0 ρ ρ1 ρ' : Ev} {chk : Sto → Prop} {g : GT} {lb : LS} {d : D} {ds : List D} {S S1 : Sto} {r : R Fl} (hc : chk S) (hg : g d ρ = some ρ1) (h : lb ρ1 S = .ok (.nx ρ') S1) (h2 : forG ρ0 chk g lb ds (wk ρ0 ρ') S1 = r) : forG ρ0 chk g lb (d :: ds) ρ S = r := by
  unfold forG; rw [if_pos hc, hg]; show (lb ρ1 S).bind _ = _; rw [h, bind_ok]; exact h2
theorem for_end {ρ0 ρ : Ev} {chk : Sto → Prop} {g : GT} {lb : LS} {S : Sto} (hc : chk S) : forG ρ0 chk g lb [] ρ S = .ok (.nx ρ) S := by
  unfold forG; rw [if_pos hc]
theorem comp_go {ρ0 ρ1 : Ev} {chk : Sto → Prop} {g : GT} {te : LE} {d y : D} {ds ys : List D} {S S1 S2 : Sto} (hc : chk S) (hg : g d ρ0 = some ρ1) (h : te ρ1 S = .ok y S1) (h2 : compG chk g tYesL te ρ0 ds S1 = .ok ys S2) : compG chk g tYesL te ρ0 (d :: ds) S = .ok (y :: ys) S2 := by
  unfold compG; rw [if_pos hc, hg]; show (noex (te ρ1 S)).bind _ = _; rw [h]; show (compG chk g tYesL te ρ0 ds S1).bind _ = _; rw [h2]; rfl
theorem comp_end {ρ0 : Ev} {chk : Sto → Prop} {g : GT} {tt : LT} {te : LE} {S : Sto} (hc : chk S) : compG chk g tt te ρ0 [] S = .ok [] S := by
  unfold compG; rw [if_pos hc]
end MP

namespace MP
open PySem PySem.Spec PyProof.Rows L2
/-! ### more of how the words compute -/
theorem tru_b {l : LE} {ρ : Ev} {S S1 : Sto} {b b' : Bool} (h : l ρ S = .ok (.bl b) S1) (e : b = b') : tTru l ρ S = .ok b' S1 := e ▸ tru_ok h rfl
theorem ix_ref {S : Sto} {j : Nat} {xs : List D} {k : Int} {d : D} (h : S[j]? = some (.lst xs)) (h2 : atI xs k = some d) : gIx S (.ref j) (.int k) = some d := by
  unfold gIx
  have e : vw S (.ref j) = .lst xs := by unfold vw; dsimp only; rw [h]
  rw [e]; exact h2
theorem sub_ok {S : Sto} {j n : Nat} {xs : List D} {k : Int} {d : D} (h : S[j]? = some (.lst xs)) (h2 : ixN xs.length k = some n) : stSeq S (.ref j) (.int k) d = some (S.set j (.lst (xs.set n d))) := by
  unfold stSeq; dsimp only; rw [h]; dsimp only; rw [h2]; rfl
theorem app_ok {S : Sto} {j : Nat} {xs : List D} {d : D} (h : S[j]? = some (.lst xs)) (h2 : xs.length < 1000) : stApp S (.ref j) [d] = some (.non, S.set j (.lst (xs ++ [d]))) := by
  unfold stApp; dsimp only; rw [h]; dsimp only; rw [if_pos (Nat.lt_of_lt_of_le h2 (by decide))]
theorem pop0_ok {S : Sto} {j : Nat} {xs : List D} {d : D} (h : S[j]? = some (.lst (d :: xs))) : stPopAt S (.ref j) [.int 0] = some (d, S.set j (.lst xs)) := by
  unfold stPopAt; dsimp only; rw [h]; dsimp only
  rw [if_pos (by decide)]
  have e : seqIndex? 0 (d :: xs).length = some 0 := by
    have := ixN_seq (n := (d :: xs).length) (i := 0) (j := 0) (by unfold ixN; rw [if_pos (by decide), if_pos (by simp)]; rfl)
    exact this.1
  rw [e]; rfl
theorem ty_lst {S : Sto} {j : Nat} {xs : List D} (h : S[j]? = some (.lst xs)) : isTy "list" S (.ref j) = true := by
  unfold isTy
  have e : vw S (.ref j) = .lst xs := by unfold vw; dsimp only; rw [h]
  rw [e]; rfl
theorem last_at {S : Sto} {o : O} : (S ++ [o])[S.length]? = some o := by simp
theorem last_set {S : Sto} {o o' : O} : (S ++ [o]).set S.length o' = S ++ [o'] := by simp
theorem for_ok {li : LI} {g : GT} {lb : LS} {ρ : Ev} {S S1 : Sto} {it : Its'} {r : R Fl} (h : li ρ S = .ok it S1) (h2 : forG ρ it.chk g lb it.items ρ S1 = r) : lFor li g lb ρ S = r := by
  unfold lFor; rw [h]; exact h2
theorem enum_ok {t : LA} {ρ : Ev} {S S1 : Sto} {xs : List D} (h : t ρ S = .ok [.lst xs] S1) : lEnum t ρ S = .ok ⟨enumD xs, fun _ => True⟩ S1 := by
  unfold lEnum; rw [h, bind_ok]
theorem toPDs_int : ∀ own : List Int, toPDs (own.map D.int) = some (own.map PyData.int)
  | [] => rfl
  | x :: r => by simp [toPDs, toPD, toPDs_int r]
theorem canLay_int : ∀ own : List Int, PyData.canLayAll0 (own.map PyData.int) = true
  | [] => rfl
  | x :: r => by simp [PyData.canLayAll0, PyData.canLay0, canLay_int r]
end MP

namespace MP
open PySem PySem.Spec PyProof.Rows L2
theorem depth_int : ∀ own : List Int, PyData.depthAll (own.map PyData.int) ≤ 1
  | [] => by simp [PyData.depthAll]
  | x :: r => by
    have := depth_int r
    simp only [List.map_cons, PyData.depthAll, PyData.depth]
    omega
theorem shaped_int (own : List Int) : SeqAt.shaped (.list (own.map PyData.int)) = true := by
  unfold SeqAt.shaped
  have h := depth_int own
  have e : (PyData.list (own.map PyData.int)).depth ≤ 64 := by
    simp only [PyData.depth]
    omega
  rw [Bool.and_eq_true]
  exact ⟨by simp only [PyData.canLay0]; exact canLay_int own, decide_eq_true e⟩
theorem eqv_nil (own : List Int) : PyData.eqv (.list (own.map PyData.int)) (.list []) = own.isEmpty := by
  cases own <;> simp [PyData.eqv, PyData.eqvAll]
theorem ne_nil {S : Sto} {i : Nat} {own : List Int} (h : S[i]? = some (.lst (own.map D.int))) : gNe S (.ref i) (.lst []) = some (.bl (!own.isEmpty)) := by
  have e : vw S (.ref i) = .lst (own.map D.int) := by unfold vw; dsimp only; rw [h]
  have e2 : eqP S (.ref i) (.lst []) = some own.isEmpty := by
    unfold eqP
    rw [e]
    have e3 : toPD (.lst (own.map D.int)) = some (.list (own.map PyData.int)) := by simp [toPD, toPDs_int]
    have e4 : toPD (vw S (.lst [])) = some (.list []) := by rfl
    rw [e3, e4]
    show (if SeqAt.shaped (.list (own.map PyData.int)) = true ∧ SeqAt.shaped (.list []) = true then some (PyData.eqv (.list (own.map PyData.int)) (.list [])) else none) = _
    rw [if_pos ⟨shaped_int own, shaped_int []⟩, eqv_nil]
  unfold gNe eqD
  rw [e2]
  rfl

/-! ### the law's own draws: the pot -/
def Pot (n : Int) (S : Sto) (d : D) : Prop := ∃ (j i : Nat) (own : List Int) (seed cnt : Int), d = .ref j ∧ i ≠ j ∧ S[j]? = some (.lst [.ref i, .int seed, .int cnt]) ∧ S[i]? = some (.lst (own.map D.int)) ∧ own.length ≤ 63 ∧ (∀ z ∈ own, 0 ≤ z ∧ z < 10 ^ 120) ∧ 0 ≤ seed ∧ seed < 10 ^ 30 ∧ 0 ≤ cnt ∧ cnt ≤ n
theorem Pot.mono {n n' : Int} {S : Sto} {d : D} (h : Pot n S d) (hn : n ≤ n') : Pot n' S d := by
  obtain ⟨j, i, own, seed, cnt, h1, h2, h3, h4, h5, h6, h7, h8, h9, h10⟩ := h
  exact ⟨j, i, own, seed, cnt, h1, h2, h3, h4, h5, h6, h7, h8, h9, by omega⟩
def SBegin (g : F) : Prop := ∀ (S : Sto) (ns : List Int), ns.length ≤ 63 → ∃ d S', g [.lst (ns.map D.int)] S = .ok d S' ∧ Pot 0 S' d
def STake (g : F) : Prop := ∀ (n : Int) (S : Sto) (d : D) (wd : Int), Pot n S d → n < 10 ^ 30 → 0 < wd → wd < 10 ^ 200 → ∃ v S', g [d, .int wd] S = .ok (.int v) S' ∧ 0 ≤ v ∧ v < wd ∧ Pot (n + 1) S' d
def SOf (g : F) : Prop := ∀ (n : Int) (S : Sto) (d : D) (xs : List D), Pot n S d → n < 10 ^ 30 → xs ≠ [] → xs.length ≤ 1000 → ∃ y S', y ∈ xs ∧ g [d, .lst xs] S = .ok y S' ∧ Pot (n + 1) S' d
theorem of_spec {g : F} (St : STake g) : SOf (bodyF 2 (lRet (lBin gIx (lVar 1) (lCall 2 g [] (aCons (lVar 0) (aCons (lCallB gLen (aCons (lVar 1) aNil)) aNil)))))) := by
  intro n S d xs hp hn hx hl
  have hz : 0 < xs.length := by cases xs with
    | nil => exact absurd rfl hx
    | cons _ _ => simp
  have b2 : (1000 : Int) < 10 ^ 200 := by decide +kernel
  have hb2 : (xs.length : Int) < 10 ^ 200 := by omega
  obtain ⟨v, S', e, h0, h1, hp'⟩ := St n S d (xs.length : Int) hp hn (by omega) hb2
  have hv : v.toNat < xs.length := by omega
  refine ⟨xs[v.toNat], S', List.getElem_mem hv, body_rt (ret_ok (bin_ok rfl (call_ok (acons_ok rfl (acons_ok (callb_ok (acons_ok rfl rfl) rfl) rfl)) rfl e) ?_)), hp'⟩
  show atI xs v = _
  unfold atI ixN
  rw [if_pos h0, if_pos h1]
  exact List.getElem?_eq_getElem hv

/-- the draws begin -/
def begStep : LS := (lSeq
              (lSet 1
                (lBin gMod
                  (lBin gAdd
                    (lBin gAdd (lBin gMulI (lVar 1) (lC (D.int 1000003)))
                      (lBin gMod (lVar 4) (lBin gPow (lC (D.int 10)) (lC (D.int 30)))))
                    (lBin gMulI (lC (D.int 31)) (lVar 3)))
                  (lC (D.int 2305843009213693951))))
              (lIfS (tTru (lBin gGeI (lCallB gAbs (aCons (lVar 4) aNil)) (lBin gPow (lC (D.int 10)) (lC (D.int 18)))))
                (lExpr
                  (lBM "list" stApp (lVar 2)
                    (aCons
                      (lBin gMod (lCallB gAbs (aCons (lVar 4) aNil))
                        (lBin gMulI (lBin gPow (lC (D.int 10)) (lC (D.int 60)))
                          (lBin gPow (lC (D.int 10)) (lC (D.int 60)))))
                      aNil)))
                lNext))
def begG : GT := gtTup 2 (gtCons (gtName 3) (gtCons (gtName 4) gtNil))
theorem beg_step (sc : D) (seed k z : Int) (own : List Int) (S0 : Sto) (h0 : 0 ≤ seed) (h1 : seed < 10 ^ 30) (k0 : 0 ≤ k) (k1 : k < 1000) (hl : own.length < 63) (ho : ∀ z ∈ own, 0 ≤ z ∧ z < 10 ^ 120) :
    ∃ (seed' : Int) (own' : List Int), 0 ≤ seed' ∧ seed' < 10 ^ 30 ∧ own'.length ≤ own.length + 1 ∧ (∀ z ∈ own', 0 ≤ z ∧ z < 10 ^ 120) ∧
      begStep [some sc, some (.int seed), some (.ref S0.length), some (.int k), some (.int z)] (S0 ++ [.lst (own.map D.int)]) = .ok (.nx [some sc, some (.int seed'), some (.ref S0.length), some (.int k), some (.int z)]) (S0 ++ [.lst (own'.map D.int)]) := by
  have p30 : (10 : Int) ^ (30 : Int).toNat = 10 ^ 30 := rfl
  have b30 : (0 : Int) < 10 ^ 30 := by decide +kernel
  have sm1 : Sm seed := Sm.of h0 h1 (by decide +kernel)
  have smk : Sm k := Sm.of k0 k1 (by decide +kernel)
  have smc : ∀ c : Int, 0 ≤ c → c < 10 ^ 120 → Sm c := fun c a b => Sm.of a b (by decide +kernel)
  have hset := set_ok (i := 1) (bin_ok (bin_ok (bin_ok (bin_ok (ρ := [some sc, some (D.int seed), some (D.ref S0.length), some (D.int k), some (D.int z)]) (S := S0 ++ [.lst (own.map D.int)]) (la := lVar 1) (lb := lC (.int 1000003)) rfl rfl (mul_ii sm1 (smc _ (by decide) (by decide +kernel)))) (bin_ok (la := lVar 4) rfl (bin_ok (la := lC (.int 10)) (lb := lC (.int 30)) rfl rfl (pow_ii ⟨by decide, by decide, by decide⟩)) (mod_ii (by rw [p30]; exact b30))) add_ii)
    (bin_ok (la := lC (.int 31)) (lb := lVar 3) rfl rfl (mul_ii (smc _ (by decide) (by decide +kernel)) smk)) add_ii) (lb := lC (.int 2305843009213693951)) rfl (mod_ii (by decide)))
  have m0 := Int.emod_nonneg (seed * 1000003 + z % (10 : Int) ^ (30 : Int).toNat + 31 * k) (b := 2305843009213693951) (by decide)
  have m1 := Int.emod_lt_of_pos (seed * 1000003 + z % (10 : Int) ^ (30 : Int).toNat + 31 * k) (b := 2305843009213693951) (by decide)
  have m2 : (2305843009213693951 : Int) < 10 ^ 30 := by decide +kernel
  generalize hs : (seed * 1000003 + z % (10 : Int) ^ (30 : Int).toNat + 31 * k) % 2305843009213693951 = seed' at hset m0 m1
  have habs : ∀ ρ S, lVar 4 ρ S = .ok (.int z) S → lCallB gAbs (aCons (lVar 4) aNil) ρ S = .ok (.int (if z < 0 then -z else z)) S := fun ρ S h => callb_ok (acons_ok h rfl) rfl
  by_cases hz : (10 : Int) ^ (18 : Int).toNat ≤ (if z < 0 then -z else z)
  · have q0 : (0 : Int) < 10 ^ (60 : Int).toNat * 10 ^ (60 : Int).toNat := by decide +kernel
    have q1 : (10 : Int) ^ (60 : Int).toNat * 10 ^ (60 : Int).toNat = 10 ^ 120 := by decide +kernel
    have s60 : Sm ((10 : Int) ^ (60 : Int).toNat) := ⟨by decide +kernel, by decide +kernel⟩
    refine ⟨seed', own ++ [(if z < 0 then -z else z) % (10 ^ (60 : Int).toNat * 10 ^ (60 : Int).toNat)], m0, by omega, by simp, fun y hy => ?_, ?_⟩
    · rw [List.mem_append, List.mem_singleton] at hy
      rcases hy with hy | rfl
      · exact ho y hy
      · exact ⟨Int.emod_nonneg _ (Int.ne_of_gt q0), by rw [← q1]; exact Int.emod_lt_of_pos _ q0⟩
    · refine seq_nx hset (if_tt (tru_b (bin_ok (habs _ _ rfl) (bin_ok (la := lC (.int 10)) (lb := lC (.int 18)) rfl rfl (pow_ii ⟨by decide, by decide, by decide⟩)) rfl) (decide_eq_true hz)) ?_)
      have ha : lBM "list" stApp (lVar 2) (aCons (lBin gMod (lCallB gAbs (aCons (lVar 4) aNil)) (lBin gMulI (lBin gPow (lC (D.int 10)) (lC (D.int 60))) (lBin gPow (lC (D.int 10)) (lC (D.int 60))))) aNil) [some sc, some (D.int seed'), some (D.ref S0.length), some (D.int k), some (D.int z)] (S0 ++ [.lst (own.map D.int)]) = _ :=
        bm_ok (d := .ref S0.length) rfl (ty_lst last_at) (acons_ok (bin_ok (habs _ _ rfl) (bin_ok (bin_ok (la := lC (.int 10)) (lb := lC (.int 60)) rfl rfl (pow_ii ⟨by decide, by decide, by decide⟩)) (bin_ok (la := lC (.int 10)) (lb := lC (.int 60)) rfl rfl (pow_ii ⟨by decide, by decide, by decide⟩)) (mul_ii s60 s60)) (mod_ii q0)) rfl) (app_ok last_at (by rw [List.length_map]; omega))
      rw [last_set] at ha
      have hx := expr_ok ha
      rw [List.map_append]
      exact hx
  · refine ⟨seed', own, m0, by omega, by omega, ho, ?_⟩
    exact seq_nx hset (if_ff (tru_b (bin_ok (habs _ _ rfl) (bin_ok (la := lC (.int 10)) (lb := lC (.int 18)) rfl rfl (pow_ii ⟨by decide, by decide, by decide⟩)) rfl) (decide_eq_false hz)) rfl)
theorem beg_loop (sc a b : D) (S0 : Sto) : ∀ (items : List D) (own : List Int) (seed : Int) (x y : Option D), (∀ d ∈ items, ∃ k z : Int, d = .tup [.int k, .int z] ∧ 0 ≤ k ∧ k < 1000) → own.length + items.length ≤ 63 → 0 ≤ seed → seed < 10 ^ 30 → (∀ z ∈ own, 0 ≤ z ∧ z < 10 ^ 120) →
    ∃ (seed' : Int) (own' : List Int) (x' y' : Option D), 0 ≤ seed' ∧ seed' < 10 ^ 30 ∧ own'.length ≤ 63 ∧ (∀ z ∈ own', 0 ≤ z ∧ z < 10 ^ 120) ∧
      forG [some sc, some a, some b, none, none] (fun _ => True) begG begStep items [some sc, some (.int seed), some (.ref S0.length), x, y] (S0 ++ [.lst (own.map D.int)]) = .ok (.nx [some sc, some (.int seed'), some (.ref S0.length), x', y']) (S0 ++ [.lst (own'.map D.int)])
  | [], own, seed, x, y, hi, hl, h0, h1, ho => ⟨seed, own, x, y, h0, h1, by simpa using hl, ho, for_end trivial⟩
  | d :: items, own, seed, x, y, hi, hl, h0, h1, ho => by
    obtain ⟨k, z, rfl, k0, k1⟩ := hi d (by simp)
    simp only [List.length_cons] at hl
    obtain ⟨seed', own', s0, s1, sl, so, e⟩ := beg_step sc seed k z own S0 h0 h1 k0 k1 (by omega) ho
    obtain ⟨seed2, own2, x', y', r0, r1, rl, ro, e2⟩ := beg_loop sc a b S0 items own' seed' none none (fun d hd => hi d (by simp [hd])) (by omega) s0 s1 so
    exact ⟨seed2, own2, x', y', r0, r1, rl, ro, for_go trivial rfl e e2⟩
theorem begin_spec : SBegin (bodyF 5 (lSeq (lPar 1 2 (aCons (lBin gAdd (lCallB gLen (aCons (lVar 0) aNil)) (lC (D.int 7))) (aCons (lLstN aNil) aNil)))
        (lSeq
          (lFor (lEnum (aCons (lSlice gSlice (lVar 0) oNone (oSome (lC (D.int 63)))) aNil)) begG begStep)
          (lRet (lLstN (aCons (lVar 2) (aCons (lVar 1) (aCons (lC (D.int 0)) aNil)))))))) := by
  intro S ns hn
  have b30 : (1000 : Int) < 10 ^ 30 := by decide +kernel
  have hcut : (cutD (ns.map D.int) none (some 63)).length ≤ 63 := by
    unfold cutD
    rw [List.length_take, List.length_drop, List.length_map]
    omega
  obtain ⟨seed', own', x', y', r0, r1, rl, ro, e2⟩ := beg_loop (.lst (ns.map D.int)) (.int ((ns.map D.int).length + 7)) (.ref S.length) S (enumD (cutD (ns.map D.int) none (some 63))) [] ((ns.map D.int).length + 7) none none (fun d hd => by
      obtain ⟨i, hi, he⟩ := List.mem_iff_getElem.mp hd
      have h2 : (enumD (cutD (ns.map D.int) none (some 63)))[i]? = some d := by rw [List.getElem?_eq_getElem hi, he]
      obtain ⟨x, hx, rfl⟩ := enumD_get h2
      have hm : x ∈ ns.map D.int := List.mem_of_mem_drop (List.mem_of_mem_take (List.mem_of_getElem? hx))
      obtain ⟨z, _, rfl⟩ := List.mem_map.mp hm
      rw [enumD_length] at hi
      exact ⟨(i : Int), z, rfl, by omega, by omega⟩) (by rw [enumD_length]; simpa using hcut) (by omega) (by rw [List.length_map]; omega) (fun z hz => by simp at hz)
  refine ⟨_, _, body_rt (seq_nx (par_ok (acons_ok (bin_ok (callb_ok (acons_ok rfl rfl) rfl) rfl add_ii) (acons_ok (lstN_ok rfl (by simp)) rfl))) (seq_nx (for_ok (enum_ok rfl) e2) (ret_ok (lstN_ok rfl (by simp))))), ?_⟩
  refine ⟨_, S.length, own', seed', 0, rfl, by simp, last_at, ?_, rl, ro, r0, r1, by omega, by omega⟩
  rw [List.getElem?_append_left (by simp)]
  exact last_at
/-! ### a draw -/
def tkT : LT := (MP.tAnd (tTru (lBin gNe (lBin gIx (lVar 0) (lC (D.int 0))) (lLst aNil)))
            (tTru (lBin gEq (lBin gIx (lBin gIx (lVar 0) (lC (D.int 0))) (lC (D.int 0))) (lC (D.int 0)))))
def tkB : LS := (lExpr (lBM "list" stPopAt (lBin gIx (lVar 0) (lC (D.int 0))) (aCons (lC (D.int 0)) aNil)))
theorem ix0 {n : Nat} : ixN (n + 1) 0 = some 0 := by unfold ixN; rw [if_pos (by decide), if_pos (by omega)]; rfl
theorem at0 {x : D} {xs : List D} : atI (x :: xs) 0 = some x := by unfold atI; rw [List.length_cons, ix0]; rfl
theorem own_at {S : Sto} {j i : Nat} {seed cnt : Int} {ρ : Ev} {wd x y : Option D} (hj : S[j]? = some (.lst [.ref i, .int seed, .int cnt])) : lBin gIx (lVar 0) (lC (.int 0)) [some (.ref j), wd, x, y] S = .ok (.ref i) S := bin_ok (x := .ref j) rfl rfl (ix_ref hj at0)
theorem tk_loop (j i : Nat) (hij : i ≠ j) (seed cnt : Int) (wd : D) : ∀ (own : List Int) (m : Nat) (S : Sto), S[j]? = some (.lst [.ref i, .int seed, .int cnt]) → S[i]? = some (.lst (own.map D.int)) →
    ∃ (own' : List Int) (S' : Sto), own'.length ≤ own.length ∧ (∀ z ∈ own', z ∈ own) ∧ S'[j]? = some (.lst [.ref i, .int seed, .int cnt]) ∧ S'[i]? = some (.lst (own'.map D.int)) ∧
      whileG [some (.ref j), some wd, none, none] tkT tkB (own.length + 1 + m) [some (.ref j), some wd, none, none] S = .ok (.nx [some (.ref j), some wd, none, none]) S'
  | [], m, S, hj, hi => by
    refine ⟨[], S, Nat.le_refl _, fun z h => h, hj, hi, ?_⟩
    have e : ([] : List Int).length + 1 + m = m + 1 := by simp; omega
    rw [e]
    exact while_end (and_ff (tru_b (bin_ok (own_at hj (ρ := [])) (lst_ok rfl (by simp)) (ne_nil hi)) rfl))
  | z :: own, m, S, hj, hi => by
    have e : (z :: own).length + 1 + m = (own.length + 1 + m) + 1 := by simp; omega
    rw [e]
    have h1 : tTru (lBin gNe (lBin gIx (lVar 0) (lC (D.int 0))) (lLst aNil)) [some (.ref j), some wd, none, none] S = .ok true S := tru_b (bin_ok (own_at hj (ρ := [])) (lst_ok rfl (by simp)) (ne_nil hi)) rfl
    have h2 : ∀ b, decide (z = 0) = b → tTru (lBin gEq (lBin gIx (lBin gIx (lVar 0) (lC (D.int 0))) (lC (D.int 0))) (lC (D.int 0))) [some (.ref j), some wd, none, none] S = .ok b S := fun b hb => tru_b (bin_ok (bin_ok (own_at hj (ρ := [])) rfl (ix_ref hi at0)) rfl eq_ii) hb
    by_cases hz : z = 0
    · have hp : tkB [some (.ref j), some wd, none, none] S = .ok (.nx [some (.ref j), some wd, none, none]) (S.set i (.lst (own.map D.int))) :=
        expr_ok (bm_ok (own_at hj (ρ := [])) (ty_lst hi) (acons_ok rfl rfl) (pop0_ok hi))
      have hil : i < S.length := (List.getElem?_eq_some_iff.mp hi).1
      obtain ⟨own', S', r1, r2, r3, r4, r5⟩ := tk_loop j i hij seed cnt wd own m (S.set i (.lst (own.map D.int))) (by rw [List.getElem?_set_ne hij]; exact hj) (by rw [List.getElem?_set_self hil])
      exact ⟨own', S', by simp; omega, fun y hy => List.mem_cons_of_mem _ (r2 y hy), r3, r4, while_go (and_tt h1 (h2 true (decide_eq_true hz))) hp r5⟩
    · exact ⟨z :: own, S, Nat.le_refl _, fun y h => h, hj, hi, while_end (and_tt h1 (h2 false (decide_eq_false hz)))⟩
theorem take_spec : STake (bodyF 4 (lSeq
        (lWhile (2 ^ 4000) tkT tkB)
        (lSeq
          (lIfS (tTru (lBin gNe (lBin gIx (lVar 0) (lC (D.int 0))) (lLst aNil)))
            (lSeq (lSet 2 (lBin gMod (lBin gIx (lBin gIx (lVar 0) (lC (D.int 0))) (lC (D.int 0))) (lVar 1)))
              (lSeq
                (lStS stSeq (lBin gIx (lVar 0) (lC (D.int 0))) (lC (D.int 0))
                  (lBin gDiv (lBin gIx (lBin gIx (lVar 0) (lC (D.int 0))) (lC (D.int 0))) (lVar 1)))
                (lRet (lVar 2))))
            lNext)
          (lSeq (lStS stSeq (lVar 0) (lC (D.int 2)) (lBin gAdd (lBin gIx (lVar 0) (lC (D.int 2))) (lC (D.int 1))))
            (lSeq
              (lSet 3
                (lBin gMod
                  (lBin gMulI
                    (lBin gAdd
                      (lBin gAdd (lBin gIx (lVar 0) (lC (D.int 1)))
                        (lBin gMulI (lBin gMulI (lC (D.int 65537)) (lBin gIx (lVar 0) (lC (D.int 2))))
                          (lBin gIx (lVar 0) (lC (D.int 2)))))
                      (lC (D.int 11)))
                    (lC (D.int 48271)))
                  (lC (D.int 2305843009213693921))))
              (lSeq
                (lSet 3
                  (lBin gMod
                    (lBin gMulI (lVar 3)
                      (lBin gAdd (lBin gMod (lVar 3) (lC (D.int 1000003)))
                        (lBin gMulI (lC (D.int 99991)) (lBin gIx (lVar 0) (lC (D.int 2))))))
                    (lC (D.int 2305843009213693907))))
                (lRet
                  (lBin gMod (lBin gAdd (lBin gDiv (lVar 3) (lC (D.int 97))) (lBin gDiv (lVar 3) (lC (D.int 1000033))))
                    (lVar 1))))))))) := by
  intro n S d wd hp hn w0 w1
  obtain ⟨j, i, own0, seed, cnt, rfl, hij, hj0, hi0, hl0, ho0, s0, s1, c0, c1⟩ := hp
  have hf : own0.length + 1 + (2 ^ 4000 - own0.length - 1) = 2 ^ 4000 := by
    have : 64 < 2 ^ 4000 := by decide +kernel
    omega
  obtain ⟨own, S1, hl, hm, hj, hi, hw⟩ := tk_loop j i hij seed cnt (.int wd) own0 (2 ^ 4000 - own0.length - 1) S hj0 hi0
  rw [hf] at hw
  have ho : ∀ z ∈ own, 0 ≤ z ∧ z < 10 ^ 120 := fun z h => ho0 z (hm z h)
  have smw : Sm wd := Sm.of (by omega) w1 (by decide +kernel)
  cases own with
  | cons z own =>
    obtain ⟨z0, z1⟩ := ho z (by simp)
    have hil : i < S1.length := (List.getElem?_eq_some_iff.mp hi).1
    have hx : ∀ y, lBin gIx (lBin gIx (lVar 0) (lC (D.int 0))) (lC (D.int 0)) [some (.ref j), some (.int wd), y, none] S1 = .ok (.int z) S1 := fun y => bin_ok (bin_ok (x := .ref j) rfl rfl (ix_ref hj at0)) rfl (ix_ref hi at0)
    refine ⟨z % wd, S1.set i (.lst ((D.int (z / wd)) :: own.map D.int)), body_rt (seq_nx hw (seq_rt (if_tt (tru_b (bin_ok (own_at hj (ρ := [])) (lst_ok rfl (by simp)) (ne_nil hi)) rfl) (seq_nx (set_ok (bin_ok (hx none) rfl (mod_ii w0))) (seq_nx (stS_ok (bin_ok (hx _) rfl (div_ii w0 smw)) (bin_ok (x := .ref j) rfl rfl (ix_ref hj at0)) rfl (sub_ok (n := 0) hi (by rw [List.length_map, List.length_cons, ix0]))) (ret_ok rfl)))))), Int.emod_nonneg _ (Int.ne_of_gt w0), Int.emod_lt_of_pos _ w0, ?_⟩
    refine ⟨j, i, (z / wd) :: own, seed, cnt, rfl, hij, by rw [List.getElem?_set_ne hij]; exact hj, by rw [List.getElem?_set_self hil]; rfl, by simp only [List.length_cons] at hl ⊢; omega, fun y hy => ?_, s0, s1, c0, by omega⟩
    rcases List.mem_cons.mp hy with rfl | hy
    · exact ⟨Int.ediv_nonneg z0 (by omega), Int.lt_of_le_of_lt (Int.ediv_le_self _ z0) z1⟩
    · exact ho y (by simp [hy])
  | nil =>
    have hjl : j < S1.length := (List.getElem?_eq_some_iff.mp hj).1
    have b1 : (10 : Int) ^ 30 * 10 ^ 30 = 10 ^ 60 := by decide +kernel
    have sml : ∀ c : Int, 0 ≤ c → c < 10 ^ 100 → Sm c := fun c a b => Sm.of a b (by decide +kernel)
    have e2 : S1.set j (.lst (([.ref i, .int seed, .int cnt] : List D).set 2 (.int (cnt + 1)))) = S1.set j (.lst [.ref i, .int seed, .int (cnt + 1)]) := rfl
    have hj2 : (S1.set j (.lst [.ref i, .int seed, .int (cnt + 1)]))[j]? = some (.lst [.ref i, .int seed, .int (cnt + 1)]) := List.getElem?_set_self hjl
    have hi2 : (S1.set j (.lst [.ref i, .int seed, .int (cnt + 1)]))[i]? = some (.lst (([] : List Int).map D.int)) := by rw [List.getElem?_set_ne (Ne.symm hij)]; exact hi
    have c2 : cnt + 1 ≤ 10 ^ 30 := by omega
    have bb : (0 : Int) < 10 ^ 30 ∧ (10 : Int) ^ 30 < 10 ^ 100 ∧ (65537 : Int) * 10 ^ 30 < 10 ^ 100 ∧ (99991 : Int) * 10 ^ 30 + 1000003 < 10 ^ 100 ∧ (65537 : Int) * 10 ^ 30 * 10 ^ 30 + 10 ^ 30 + 11 < 10 ^ 100 ∧ (2305843009213693921 : Int) < 10 ^ 100 := by decide +kernel
    obtain ⟨bb0, bb1, bb2, bb3, bb4, bb5⟩ := bb
    have scn : Sm (cnt + 1) := sml _ (by omega) (by omega)
    have k0 : (0 : Int) ≤ 65537 * (cnt + 1) := by omega
    have k1 : (65537 : Int) * (cnt + 1) ≤ 65537 * 10 ^ 30 := by omega
    have k2 : (65537 : Int) * (cnt + 1) * (cnt + 1) ≤ 65537 * 10 ^ 30 * 10 ^ 30 := Int.le_trans (Int.mul_le_mul_of_nonneg_right k1 (by omega)) (Int.mul_le_mul_of_nonneg_left c2 (by decide +kernel))
    have k3 : (0 : Int) ≤ 65537 * (cnt + 1) * (cnt + 1) := Int.mul_nonneg k0 (by omega)
    have cx : ∀ y z, lBin gIx (lVar 0) (lC (D.int 2)) [some (.ref j), some (.int wd), y, z] (S1.set j (.lst [.ref i, .int seed, .int (cnt + 1)])) = .ok (.int (cnt + 1)) (S1.set j (.lst [.ref i, .int seed, .int (cnt + 1)])) := fun y z => bin_ok (x := .ref j) rfl rfl (ix_ref hj2 rfl)
    have sx : ∀ y z, lBin gIx (lVar 0) (lC (D.int 1)) [some (.ref j), some (.int wd), y, z] (S1.set j (.lst [.ref i, .int seed, .int (cnt + 1)])) = .ok (.int seed) (S1.set j (.lst [.ref i, .int seed, .int (cnt + 1)])) := fun y z => bin_ok (x := .ref j) rfl rfl (ix_ref hj2 rfl)
    have g1 := set_ok (i := 3) (bin_ok (bin_ok (bin_ok (bin_ok (sx none none) (bin_ok (bin_ok (la := lC (.int 65537)) rfl (cx none none) (mul_ii (sml _ (by decide) (by decide +kernel)) scn)) (cx none none) (mul_ii (sml _ k0 (by omega)) scn)) add_ii) (lb := lC (.int 11)) rfl add_ii) (lb := lC (.int 48271)) rfl (mul_ii (sml _ (by omega) (by omega)) (sml _ (by decide) (by decide +kernel)))) (lb := lC (.int 2305843009213693921)) rfl (mod_ii (by decide)))
    have m0 := Int.emod_nonneg ((seed + 65537 * (cnt + 1) * (cnt + 1) + 11) * 48271) (b := 2305843009213693921) (by decide)
    have m1 := Int.emod_lt_of_pos ((seed + 65537 * (cnt + 1) * (cnt + 1) + 11) * 48271) (b := 2305843009213693921) (by decide)
    generalize (seed + 65537 * (cnt + 1) * (cnt + 1) + 11) * 48271 % 2305843009213693921 = mx at g1 m0 m1
    have t0 := Int.emod_nonneg mx (b := 1000003) (by decide)
    have t1 := Int.emod_lt_of_pos mx (b := 1000003) (by decide)
    have g2 := set_ok (i := 3) (bin_ok (bin_ok (ρ := [some (.ref j), some (.int wd), none, some (.int mx)]) (la := lVar 3) rfl (bin_ok (bin_ok (la := lVar 3) (lb := lC (.int 1000003)) rfl rfl (mod_ii (by decide))) (bin_ok (la := lC (.int 99991)) rfl (cx none _) (mul_ii (sml _ (by decide) (by decide +kernel)) scn)) add_ii) (mul_ii (sml _ m0 (by omega)) (sml _ (by omega) (by omega)))) (lb := lC (.int 2305843009213693907)) rfl (mod_ii (by decide)))
    generalize mx * (mx % 1000003 + 99991 * (cnt + 1)) % 2305843009213693907 = my at g2
    have g3 : lRet (lBin gMod (lBin gAdd (lBin gDiv (lVar 3) (lC (D.int 97))) (lBin gDiv (lVar 3) (lC (D.int 1000033)))) (lVar 1)) [some (.ref j), some (.int wd), none, some (.int my)] (S1.set j (.lst [.ref i, .int seed, .int (cnt + 1)])) = .ok (.rt (.int ((my / 97 + my / 1000033) % wd))) _ :=
      ret_ok (bin_ok (bin_ok (bin_ok rfl rfl (div_ii (by decide) (sml _ (by decide) (by decide +kernel)))) (bin_ok rfl rfl (div_ii (by decide) (sml _ (by decide) (by decide +kernel)))) add_ii) rfl (mod_ii w0))
    refine ⟨(my / 97 + my / 1000033) % wd, _, body_rt (seq_nx hw (seq_nx (if_ff (tru_b (bin_ok (own_at hj (ρ := [])) (lst_ok rfl (by simp)) (ne_nil hi)) rfl) rfl) (seq_nx (stS_ok (bin_ok (bin_ok (x := .ref j) rfl rfl (ix_ref hj rfl)) rfl add_ii) rfl rfl (sub_ok (n := 2) hj rfl)) (seq_nx g1 (seq_nx g2 g3))))), Int.emod_nonneg _ (Int.ne_of_gt w0), Int.emod_lt_of_pos _ w0, ?_⟩
    exact ⟨j, i, [], seed, cnt + 1, rfl, hij, hj2, hi2, by simp, fun z h => by simp at h, s0, s1, by omega, by omega⟩
end MP

namespace MP
open PySem PySem.Spec PyProof.Rows L2
theorem comp_ok {li : LI} {ix : List Nat} {g : GT} {tt : LT} {te : LE} {ρ : Ev} {S S1 S2 : Sto} {it : Its'} {ys : List D} (h : li ρ S = .ok it S1) (hl : it.items.length ≤ 1000) (h2 : compG it.chk g tt te (wipeE ρ ix) it.items S1 = .ok ys S2) : lComp li ix g tt te ρ S = .ok (.lst ys) S2 := by
  unfold lComp compL
  rw [h, bind_ok, if_pos (Nat.le_trans hl (by decide)), h2, bind_ok]
theorem comp_all {chk : Sto → Prop} {g : GT} {te : LE} {ρ0 : Ev} {f : D → D} {S : Sto} (hc : chk S) : ∀ items : List D, (∀ d ∈ items, ∃ ρ1, g d ρ0 = some ρ1 ∧ te ρ1 S = .ok (f d) S) → compG chk g tYesL te ρ0 items S = .ok (items.map f) S
  | [], _ => comp_end hc
  | d :: items, h => by
    obtain ⟨ρ1, h1, h2⟩ := h d (by simp)
    exact comp_go hc h1 h2 (comp_all hc items fun d hd => h d (by simp [hd]))
theorem for_const {chk : Sto → Prop} {g : GT} {lb : LS} {ρ0 : Ev} {S : Sto} (hc : chk S) : ∀ items : List D, (∀ d ∈ items, ∃ ρ1 ρ', g d ρ0 = some ρ1 ∧ lb ρ1 S = .ok (.nx ρ') S ∧ wk ρ0 ρ' = ρ0) → forG ρ0 chk g lb items ρ0 S = .ok (.nx ρ0) S
  | [], _ => for_end hc
  | d :: items, h => by
    obtain ⟨ρ1, ρ', h1, h2, h3⟩ := h d (by simp)
    refine for_go hc h1 h2 ?_
    rw [h3]
    exact for_const hc items fun d hd => h d (by simp [hd])
theorem for_inv {chk : Sto → Prop} {g : GT} {lb : LS} {ρ0 : Ev} {I : Nat → Sto → Prop} (hc : ∀ S, chk S) : ∀ (items : List D) (k : Nat) (S : Sto), I k S → (∀ d ∈ items, ∀ k S, I k S → ∃ ρ1 ρ' S', g d ρ0 = some ρ1 ∧ lb ρ1 S = .ok (.nx ρ') S' ∧ wk ρ0 ρ' = ρ0 ∧ I (k + 1) S') →
    ∃ S', forG ρ0 chk g lb items ρ0 S = .ok (.nx ρ0) S' ∧ I (k + items.length) S'
  | [], k, S, hI, _ => ⟨S, for_end (hc S), hI⟩
  | d :: items, k, S, hI, h => by
    obtain ⟨ρ1, ρ', S1, h1, h2, h3, h4⟩ := h d (by simp) k S hI
    obtain ⟨S2, h5, h6⟩ := for_inv hc items (k + 1) S1 h4 fun d hd => h d (by simp [hd])
    refine ⟨S2, ?_, by rw [List.length_cons, ← Nat.add_assoc, Nat.add_right_comm]; exact h6⟩
    refine for_go (hc S) h1 h2 ?_
    rw [h3]
    exact h5
theorem bls_true (xs : List D) : blsOf (xs.map fun _ => D.bl true) = some (xs.map fun _ => true) := by
  induction xs with
  | nil => rfl
  | cons x r ih => simp [blsOf, ih]
theorem all_true {S : Sto} (xs : List D) : gAll S [.lst (xs.map fun _ => D.bl true)] = some (.bl true) := by
  show (blsOf (xs.map fun _ => D.bl true)).map (fun bs => D.bl (bs.all id)) = _
  rw [bls_true]
  simp
theorem iter_ok {l : LE} {ρ : Ev} {S S1 : Sto} {d : D} {it : Its'} (h : l ρ S = .ok d S1) (h2 : iterOf S1 d = some it) : lIter l ρ S = .ok it S1 := by
  unfold lIter; rw [h, bind_ok, h2]; rfl
/-- a law: its pot, its turns, True -/
theorem shell {n : Nat} {l1 l3 : LS} {li : LI} {g : GT} {lb : LS} {ds : List D} {S S1 : Sto} {ρ1 : Ev} {it : Its'} {d : D} {I : Nat → Sto → Prop} (h1 : l1 (ds.map some ++ List.replicate (n - ds.length) none) S = .ok (.nx ρ1) S1) (h2 : li ρ1 S1 = .ok it S1) (hc : ∀ S, it.chk S) (h0 : I 0 S1)
    (ht : ∀ d ∈ it.items, ∀ k S, I k S → k < it.items.length → ∃ ρ2 ρ' S', g d ρ1 = some ρ2 ∧ lb ρ2 S = .ok (.nx ρ') S' ∧ wk ρ1 ρ' = ρ1 ∧ I (k + 1) S') (h3 : ∀ S, l3 ρ1 S = .ok (.rt d) S) :
    ∃ S', bodyF n (lSeq l1 (lSeq (lFor li g lb) l3)) ds S = .ok d S' := by
  have key : ∀ (items : List D) (k : Nat) (S : Sto), I k S → (∀ d ∈ items, d ∈ it.items) → k + items.length = it.items.length → ∃ S', forG ρ1 it.chk g lb items ρ1 S = .ok (.nx ρ1) S' := by
    intro items
    induction items with
    | nil => exact fun k S hI _ _ => ⟨S, for_end (hc S)⟩
    | cons d items ih =>
      intro k S hI hm hk
      simp only [List.length_cons] at hk
      obtain ⟨ρ2, ρ', S1, h1, h2, h3, h4⟩ := ht d (hm d (by simp)) k S hI (by omega)
      obtain ⟨S2, h5⟩ := ih (k + 1) S1 h4 (fun d hd => hm d (by simp [hd])) (by omega)
      exact ⟨S2, for_go (hc S) h1 h2 (by rw [h3]; exact h5)⟩
  obtain ⟨S2, e⟩ := key it.items 0 S1 h0 (fun _ h => h) (by omega)
  exact ⟨S2, body_rt (seq_nx h1 (seq_nx (for_ok h2 e) (h3 S2)))⟩
end MP

namespace K26
open PySem PySem.Spec PyProof.Rows L2 MP
def top (i : Nat) : Stmt := PySem.Challenge.pw_lotgivers_k26_exact_shares.main.body.getD i (.Pass ⟨0, 0, 0, 0⟩)
abbrev s_common_part : Stmt := top 1
abbrev N_common_part : List Str := ["one", "other"]
theorem sc_common_part : FnScope N_common_part ["one", "other"] (defScope s_common_part) := ⟨rfl, rfl, rfl, by decide +kernel, rfl, by decide +kernel, by decide +kernel⟩
abbrev s_Share___init__ : Stmt := inClass (top 2) 0
abbrev N_Share___init__ : List Str := ["self", "part", "whole", "by"]
theorem sc_Share___init__ : FnScope N_Share___init__ ["self", "part", "whole"] (defScope s_Share___init__) := ⟨rfl, rfl, rfl, by decide +kernel, rfl, by decide +kernel, by decide +kernel⟩
abbrev s_Share___eq__ : Stmt := inClass (top 2) 1
abbrev N_Share___eq__ : List Str := ["self", "other"]
theorem sc_Share___eq__ : FnScope N_Share___eq__ ["self", "other"] (defScope s_Share___eq__) := ⟨rfl, rfl, rfl, by decide +kernel, rfl, by decide +kernel, by decide +kernel⟩
abbrev s_Share___str__ : Stmt := inClass (top 2) 2
abbrev N_Share___str__ : List Str := ["self"]
theorem sc_Share___str__ : FnScope N_Share___str__ ["self"] (defScope s_Share___str__) := ⟨rfl, rfl, rfl, by decide +kernel, rfl, by decide +kernel, by decide +kernel⟩
abbrev s_Share___repr__ : Stmt := inClass (top 2) 3
abbrev N_Share___repr__ : List Str := ["self"]
theorem sc_Share___repr__ : FnScope N_Share___repr__ ["self"] (defScope s_Share___repr__) := ⟨rfl, rfl, rfl, by decide +kernel, rfl, by decide +kernel, by decide +kernel⟩
abbrev s_Share_more_than : Stmt := inClass (top 2) 4
abbrev N_Share_more_than : List Str := ["self", "other"]
theorem sc_Share_more_than : FnScope N_Share_more_than ["self", "other"] (defScope s_Share_more_than) := ⟨rfl, rfl, rfl, by decide +kernel, rfl, by decide +kernel, by decide +kernel⟩
abbrev s__law_begin : Stmt := top 4
abbrev N__law_begin : List Str := ["_law_script", "_law_seed", "_law_own", "_law_k", "_law_cell"]
theorem sc__law_begin : FnScope N__law_begin ["_law_script"] (defScope s__law_begin) := ⟨rfl, rfl, rfl, by decide +kernel, rfl, by decide +kernel, by decide +kernel⟩
abbrev s__law_take : Stmt := top 5
abbrev N__law_take : List Str := ["_law_pot", "_law_width", "_law_digit", "_law_mixed"]
theorem sc__law_take : FnScope N__law_take ["_law_pot", "_law_width"] (defScope s__law_take) := ⟨rfl, rfl, rfl, by decide +kernel, rfl, by decide +kernel, by decide +kernel⟩
abbrev s__law_of : Stmt := top 6
abbrev N__law_of : List Str := ["_law_pot", "_law_some"]
theorem sc__law_of : FnScope N__law_of ["_law_pot", "_law_some"] (defScope s__law_of) := ⟨rfl, rfl, rfl, by decide +kernel, rfl, by decide +kernel, by decide +kernel⟩
abbrev s__law_two : Stmt := top 7
abbrev N__law_two : List Str := ["_law_pot", "_law_by", "_law_around", "_law_few"]
theorem sc__law_two : FnScope N__law_two ["_law_pot"] (defScope s__law_two) := ⟨rfl, rfl, rfl, by decide +kernel, rfl, by decide +kernel, by decide +kernel⟩
abbrev s__law_common : Stmt := top 8
abbrev N__law_common : List Str := ["_law_one", "_law_other"]
theorem sc__law_common : FnScope N__law_common ["_law_one", "_law_other"] (defScope s__law_common) := ⟨rfl, rfl, rfl, by decide +kernel, rfl, by decide +kernel, by decide +kernel⟩
abbrev s__law_right : Stmt := top 9
abbrev N__law_right : List Str := ["_law_few", "_law_around", "_law_told"]
theorem sc__law_right : FnScope N__law_right ["_law_few", "_law_around"] (defScope s__law_right) := ⟨rfl, rfl, rfl, by decide +kernel, rfl, by decide +kernel, by decide +kernel⟩
abbrev s__law_compared_right : Stmt := top 10
abbrev N__law_compared_right : List Str := ["_law_mine", "_law_yours", "_law_one", "_law_two_here", "_law_cross"]
theorem sc__law_compared_right : FnScope N__law_compared_right ["_law_mine", "_law_yours"] (defScope s__law_compared_right) := ⟨rfl, rfl, rfl, by decide +kernel, rfl, by decide +kernel, by decide +kernel⟩
abbrev s_law : Stmt := top 11
abbrev N_law : List Str := ["_law_script", "_law_pot", "_law_turn", "_law_some", "_law_k", "_law_few", "_law_around", "_law_mine", "_law_yours"]
theorem sc_law : FnScope N_law ["_law_script"] (defScope s_law) := ⟨rfl, rfl, rfl, by decide +kernel, rfl, by decide +kernel, by decide +kernel⟩
structure T26 (K : PySem.W.Frag) (mg : Str → Option Value) where
  C_Share : Addr
  f_common_part : Addr
  fd_common_part : FuncData
  F_common_part : Fun K "common_part" "common_part" s_common_part f_common_part fd_common_part
  b_common_part : Binds K fd_common_part ["one", "other"] []
  mg_common_part : mg "common_part" = some (.ref f_common_part)
  f_Share___init__ : Addr
  fd_Share___init__ : FuncData
  F_Share___init__ : Fun K "__init__" "Share.__init__" s_Share___init__ f_Share___init__ fd_Share___init__
  b_Share___init__ : Binds K fd_Share___init__ ["self", "part", "whole"] []
  a_Share___init__ : PySem.W.findIn K (.ref C_Share) "__init__" = some (some (.ref f_Share___init__))
  i_Share___init__ : PySem.W.isFn K (.ref f_Share___init__) = true
  f_Share___eq__ : Addr
  fd_Share___eq__ : FuncData
  F_Share___eq__ : Fun K "__eq__" "Share.__eq__" s_Share___eq__ f_Share___eq__ fd_Share___eq__
  b_Share___eq__ : Binds K fd_Share___eq__ ["self", "other"] []
  a_Share___eq__ : PySem.W.findIn K (.ref C_Share) "__eq__" = some (some (.ref f_Share___eq__))
  i_Share___eq__ : PySem.W.isFn K (.ref f_Share___eq__) = true
  f_Share___str__ : Addr
  fd_Share___str__ : FuncData
  F_Share___str__ : Fun K "__str__" "Share.__str__" s_Share___str__ f_Share___str__ fd_Share___str__
  b_Share___str__ : Binds K fd_Share___str__ ["self"] []
  a_Share___str__ : PySem.W.findIn K (.ref C_Share) "__str__" = some (some (.ref f_Share___str__))
  i_Share___str__ : PySem.W.isFn K (.ref f_Share___str__) = true
  f_Share___repr__ : Addr
  fd_Share___repr__ : FuncData
  F_Share___repr__ : Fun K "__repr__" "Share.__repr__" s_Share___repr__ f_Share___repr__ fd_Share___repr__
  b_Share___repr__ : Binds K fd_Share___repr__ ["self"] []
  a_Share___repr__ : PySem.W.findIn K (.ref C_Share) "__repr__" = some (some (.ref f_Share___repr__))
  i_Share___repr__ : PySem.W.isFn K (.ref f_Share___repr__) = true
  f_Share_more_than : Addr
  fd_Share_more_than : FuncData
  F_Share_more_than : Fun K "more_than" "Share.more_than" s_Share_more_than f_Share_more_than fd_Share_more_than
  b_Share_more_than : Binds K fd_Share_more_than ["self", "other"] []
  a_Share_more_than : PySem.W.findIn K (.ref C_Share) "more_than" = some (some (.ref f_Share_more_than))
  i_Share_more_than : PySem.W.isFn K (.ref f_Share_more_than) = true
  mt_Share_more_than : Meth K C_Share "more_than" f_Share_more_than
  f__law_begin : Addr
  fd__law_begin : FuncData
  F__law_begin : Fun K "_law_begin" "_law_begin" s__law_begin f__law_begin fd__law_begin
  b__law_begin : Binds K fd__law_begin ["_law_script"] []
  mg__law_begin : mg "_law_begin" = some (.ref f__law_begin)
  f__law_take : Addr
  fd__law_take : FuncData
  F__law_take : Fun K "_law_take" "_law_take" s__law_take f__law_take fd__law_take
  b__law_take : Binds K fd__law_take ["_law_pot", "_law_width"] []
  mg__law_take : mg "_law_take" = some (.ref f__law_take)
  f__law_of : Addr
  fd__law_of : FuncData
  F__law_of : Fun K "_law_of" "_law_of" s__law_of f__law_of fd__law_of
  b__law_of : Binds K fd__law_of ["_law_pot", "_law_some"] []
  mg__law_of : mg "_law_of" = some (.ref f__law_of)
  f__law_two : Addr
  fd__law_two : FuncData
  F__law_two : Fun K "_law_two" "_law_two" s__law_two f__law_two fd__law_two
  b__law_two : Binds K fd__law_two ["_law_pot"] []
  mg__law_two : mg "_law_two" = some (.ref f__law_two)
  f__law_common : Addr
  fd__law_common : FuncData
  F__law_common : Fun K "_law_common" "_law_common" s__law_common f__law_common fd__law_common
  b__law_common : Binds K fd__law_common ["_law_one", "_law_other"] []
  mg__law_common : mg "_law_common" = some (.ref f__law_common)
  f__law_right : Addr
  fd__law_right : FuncData
  F__law_right : Fun K "_law_right" "_law_right" s__law_right f__law_right fd__law_right
  b__law_right : Binds K fd__law_right ["_law_few", "_law_around"] []
  mg__law_right : mg "_law_right" = some (.ref f__law_right)
  f__law_compared_right : Addr
  fd__law_compared_right : FuncData
  F__law_compared_right : Fun K "_law_compared_right" "_law_compared_right" s__law_compared_right f__law_compared_right fd__law_compared_right
  b__law_compared_right : Binds K fd__law_compared_right ["_law_mine", "_law_yours"] []
  mg__law_compared_right : mg "_law_compared_right" = some (.ref f__law_compared_right)
  f_law : Addr
  fd_law : FuncData
  F_law : Fun K "law" "law" s_law f_law fd_law
  b_law : Binds K fd_law ["_law_script"] []
  mg_law : mg "law" = some (.ref f_law)
  mg_Share : mg "Share" = some (.ref C_Share)
  cl_Share : Cls K C_Share
  mk_Share : Mk K C_Share f_Share___init__
  ok_Share : OwnOk K C_Share
  na_Share_part : NoAttr K C_Share "part"
  na_Share_whole : NoAttr K C_Share "whole"
  ne_Share : PySem.W.findIn K (.ref C_Share) "__ne__" = some (some (.builtin "object.__ne__"))
  nf_Share_tuple : PySem.W.notFirst K C_Share (.type "tuple") = true
  nf_Share_str : PySem.W.notFirst K C_Share (.type "str") = true
  ko_Share_tuple : PySem.W.kitOne K (.type "tuple") (.ref C_Share) = some false
  ko_Share_str : PySem.W.kitOne K (.type "str") (.ref C_Share) = some false
  n_len : mg "len" = none
  n_abs : mg "abs" = none
  n_min : mg "min" = none
  n_all : mg "all" = none
  n_repr : mg "repr" = none
  n_str : mg "str" = none
  n_range : mg "range" = none
  n_enumerate : mg "enumerate" = none
  n_isinstance : mg "isinstance" = none
  n_bool : mg "bool" = none
def T26_mk {K : PySem.W.Frag} {h : Heap} {mg : Str → Option Value} (X : K.In h) (G : h.Ns mainGlobals mg)
    {C_Share : Addr}
    {f_common_part : Addr} {od_common_part an_common_part : Option Addr} {sl_common_part : Array (Option Value)} {oc_common_part kV_common_part dc_common_part pm_common_part cd_common_part ct_common_part : Value}
    {f_Share___init__ : Addr} {od_Share___init__ an_Share___init__ : Option Addr} {sl_Share___init__ : Array (Option Value)} {oc_Share___init__ kV_Share___init__ dc_Share___init__ pm_Share___init__ cd_Share___init__ ct_Share___init__ : Value}
    {f_Share___eq__ : Addr} {od_Share___eq__ an_Share___eq__ : Option Addr} {sl_Share___eq__ : Array (Option Value)} {oc_Share___eq__ kV_Share___eq__ dc_Share___eq__ pm_Share___eq__ cd_Share___eq__ ct_Share___eq__ : Value}
    {f_Share___str__ : Addr} {od_Share___str__ an_Share___str__ : Option Addr} {sl_Share___str__ : Array (Option Value)} {oc_Share___str__ kV_Share___str__ dc_Share___str__ pm_Share___str__ cd_Share___str__ ct_Share___str__ : Value}
    {f_Share___repr__ : Addr} {od_Share___repr__ an_Share___repr__ : Option Addr} {sl_Share___repr__ : Array (Option Value)} {oc_Share___repr__ kV_Share___repr__ dc_Share___repr__ pm_Share___repr__ cd_Share___repr__ ct_Share___repr__ : Value}
    {f_Share_more_than : Addr} {od_Share_more_than an_Share_more_than : Option Addr} {sl_Share_more_than : Array (Option Value)} {oc_Share_more_than kV_Share_more_than dc_Share_more_than pm_Share_more_than cd_Share_more_than ct_Share_more_than : Value}
    {f__law_begin : Addr} {od__law_begin an__law_begin : Option Addr} {sl__law_begin : Array (Option Value)} {oc__law_begin kV__law_begin dc__law_begin pm__law_begin cd__law_begin ct__law_begin : Value}
    {f__law_take : Addr} {od__law_take an__law_take : Option Addr} {sl__law_take : Array (Option Value)} {oc__law_take kV__law_take dc__law_take pm__law_take cd__law_take ct__law_take : Value}
    {f__law_of : Addr} {od__law_of an__law_of : Option Addr} {sl__law_of : Array (Option Value)} {oc__law_of kV__law_of dc__law_of pm__law_of cd__law_of ct__law_of : Value}
    {f__law_two : Addr} {od__law_two an__law_two : Option Addr} {sl__law_two : Array (Option Value)} {oc__law_two kV__law_two dc__law_two pm__law_two cd__law_two ct__law_two : Value}
    {f__law_common : Addr} {od__law_common an__law_common : Option Addr} {sl__law_common : Array (Option Value)} {oc__law_common kV__law_common dc__law_common pm__law_common cd__law_common ct__law_common : Value}
    {f__law_right : Addr} {od__law_right an__law_right : Option Addr} {sl__law_right : Array (Option Value)} {oc__law_right kV__law_right dc__law_right pm__law_right cd__law_right ct__law_right : Value}
    {f__law_compared_right : Addr} {od__law_compared_right an__law_compared_right : Option Addr} {sl__law_compared_right : Array (Option Value)} {oc__law_compared_right kV__law_compared_right dc__law_compared_right pm__law_compared_right cd__law_compared_right ct__law_compared_right : Value}
    {f_law : Addr} {od_law an_law : Option Addr} {sl_law : Array (Option Value)} {oc_law kV_law dc_law pm_law cd_law ct_law : Value}
    (aC_Share : PySem.W.nsIn K mainGlobals "Share" = some (some (.ref C_Share)))
    (a_common_part : PySem.W.nsIn K mainGlobals "common_part" = some (some (.ref f_common_part)))
    (l_common_part : K.lookup f_common_part = some ⟨oc_common_part, od_common_part, .func (PySem.W.fnOf "common_part" "common_part" (defArgs s_common_part) (defBody s_common_part) (defScope s_common_part) .none kV_common_part dc_common_part pm_common_part an_common_part cd_common_part ct_common_part), sl_common_part⟩)
    (c_common_part : PySem.W.codeIn K cd_common_part "common_part" = true)
    (k_common_part : PySem.W.keepIn K (.ref f_common_part) = true)
    (a_Share___init__ : PySem.W.findIn K (.ref C_Share) "__init__" = some (some (.ref f_Share___init__)))
    (i_Share___init__ : PySem.W.isFn K (.ref f_Share___init__) = true)
    (l_Share___init__ : K.lookup f_Share___init__ = some ⟨oc_Share___init__, od_Share___init__, .func (PySem.W.fnOf "__init__" "Share.__init__" (defArgs s_Share___init__) (defBody s_Share___init__) (defScope s_Share___init__) .none kV_Share___init__ dc_Share___init__ pm_Share___init__ an_Share___init__ cd_Share___init__ ct_Share___init__), sl_Share___init__⟩)
    (c_Share___init__ : PySem.W.codeIn K cd_Share___init__ "Share.__init__" = true)
    (k_Share___init__ : PySem.W.keepIn K (.ref f_Share___init__) = true)
    (a_Share___eq__ : PySem.W.findIn K (.ref C_Share) "__eq__" = some (some (.ref f_Share___eq__)))
    (i_Share___eq__ : PySem.W.isFn K (.ref f_Share___eq__) = true)
    (l_Share___eq__ : K.lookup f_Share___eq__ = some ⟨oc_Share___eq__, od_Share___eq__, .func (PySem.W.fnOf "__eq__" "Share.__eq__" (defArgs s_Share___eq__) (defBody s_Share___eq__) (defScope s_Share___eq__) .none kV_Share___eq__ dc_Share___eq__ pm_Share___eq__ an_Share___eq__ cd_Share___eq__ ct_Share___eq__), sl_Share___eq__⟩)
    (c_Share___eq__ : PySem.W.codeIn K cd_Share___eq__ "Share.__eq__" = true)
    (k_Share___eq__ : PySem.W.keepIn K (.ref f_Share___eq__) = true)
    (a_Share___str__ : PySem.W.findIn K (.ref C_Share) "__str__" = some (some (.ref f_Share___str__)))
    (i_Share___str__ : PySem.W.isFn K (.ref f_Share___str__) = true)
    (l_Share___str__ : K.lookup f_Share___str__ = some ⟨oc_Share___str__, od_Share___str__, .func (PySem.W.fnOf "__str__" "Share.__str__" (defArgs s_Share___str__) (defBody s_Share___str__) (defScope s_Share___str__) .none kV_Share___str__ dc_Share___str__ pm_Share___str__ an_Share___str__ cd_Share___str__ ct_Share___str__), sl_Share___str__⟩)
    (c_Share___str__ : PySem.W.codeIn K cd_Share___str__ "Share.__str__" = true)
    (k_Share___str__ : PySem.W.keepIn K (.ref f_Share___str__) = true)
    (a_Share___repr__ : PySem.W.findIn K (.ref C_Share) "__repr__" = some (some (.ref f_Share___repr__)))
    (i_Share___repr__ : PySem.W.isFn K (.ref f_Share___repr__) = true)
    (l_Share___repr__ : K.lookup f_Share___repr__ = some ⟨oc_Share___repr__, od_Share___repr__, .func (PySem.W.fnOf "__repr__" "Share.__repr__" (defArgs s_Share___repr__) (defBody s_Share___repr__) (defScope s_Share___repr__) .none kV_Share___repr__ dc_Share___repr__ pm_Share___repr__ an_Share___repr__ cd_Share___repr__ ct_Share___repr__), sl_Share___repr__⟩)
    (c_Share___repr__ : PySem.W.codeIn K cd_Share___repr__ "Share.__repr__" = true)
    (k_Share___repr__ : PySem.W.keepIn K (.ref f_Share___repr__) = true)
    (a_Share_more_than : PySem.W.findIn K (.ref C_Share) "more_than" = some (some (.ref f_Share_more_than)))
    (i_Share_more_than : PySem.W.isFn K (.ref f_Share_more_than) = true)
    (l_Share_more_than : K.lookup f_Share_more_than = some ⟨oc_Share_more_than, od_Share_more_than, .func (PySem.W.fnOf "more_than" "Share.more_than" (defArgs s_Share_more_than) (defBody s_Share_more_than) (defScope s_Share_more_than) .none kV_Share_more_than dc_Share_more_than pm_Share_more_than an_Share_more_than cd_Share_more_than ct_Share_more_than), sl_Share_more_than⟩)
    (c_Share_more_than : PySem.W.codeIn K cd_Share_more_than "Share.more_than" = true)
    (k_Share_more_than : PySem.W.keepIn K (.ref f_Share_more_than) = true)
    (a__law_begin : PySem.W.nsIn K mainGlobals "_law_begin" = some (some (.ref f__law_begin)))
    (l__law_begin : K.lookup f__law_begin = some ⟨oc__law_begin, od__law_begin, .func (PySem.W.fnOf "_law_begin" "_law_begin" (defArgs s__law_begin) (defBody s__law_begin) (defScope s__law_begin) .none kV__law_begin dc__law_begin pm__law_begin an__law_begin cd__law_begin ct__law_begin), sl__law_begin⟩)
    (c__law_begin : PySem.W.codeIn K cd__law_begin "_law_begin" = true)
    (k__law_begin : PySem.W.keepIn K (.ref f__law_begin) = true)
    (a__law_take : PySem.W.nsIn K mainGlobals "_law_take" = some (some (.ref f__law_take)))
    (l__law_take : K.lookup f__law_take = some ⟨oc__law_take, od__law_take, .func (PySem.W.fnOf "_law_take" "_law_take" (defArgs s__law_take) (defBody s__law_take) (defScope s__law_take) .none kV__law_take dc__law_take pm__law_take an__law_take cd__law_take ct__law_take), sl__law_take⟩)
    (c__law_take : PySem.W.codeIn K cd__law_take "_law_take" = true)
    (k__law_take : PySem.W.keepIn K (.ref f__law_take) = true)
    (a__law_of : PySem.W.nsIn K mainGlobals "_law_of" = some (some (.ref f__law_of)))
    (l__law_of : K.lookup f__law_of = some ⟨oc__law_of, od__law_of, .func (PySem.W.fnOf "_law_of" "_law_of" (defArgs s__law_of) (defBody s__law_of) (defScope s__law_of) .none kV__law_of dc__law_of pm__law_of an__law_of cd__law_of ct__law_of), sl__law_of⟩)
    (c__law_of : PySem.W.codeIn K cd__law_of "_law_of" = true)
    (k__law_of : PySem.W.keepIn K (.ref f__law_of) = true)
    (a__law_two : PySem.W.nsIn K mainGlobals "_law_two" = some (some (.ref f__law_two)))
    (l__law_two : K.lookup f__law_two = some ⟨oc__law_two, od__law_two, .func (PySem.W.fnOf "_law_two" "_law_two" (defArgs s__law_two) (defBody s__law_two) (defScope s__law_two) .none kV__law_two dc__law_two pm__law_two an__law_two cd__law_two ct__law_two), sl__law_two⟩)
    (c__law_two : PySem.W.codeIn K cd__law_two "_law_two" = true)
    (k__law_two : PySem.W.keepIn K (.ref f__law_two) = true)
    (a__law_common : PySem.W.nsIn K mainGlobals "_law_common" = some (some (.ref f__law_common)))
    (l__law_common : K.lookup f__law_common = some ⟨oc__law_common, od__law_common, .func (PySem.W.fnOf "_law_common" "_law_common" (defArgs s__law_common) (defBody s__law_common) (defScope s__law_common) .none kV__law_common dc__law_common pm__law_common an__law_common cd__law_common ct__law_common), sl__law_common⟩)
    (c__law_common : PySem.W.codeIn K cd__law_common "_law_common" = true)
    (k__law_common : PySem.W.keepIn K (.ref f__law_common) = true)
    (a__law_right : PySem.W.nsIn K mainGlobals "_law_right" = some (some (.ref f__law_right)))
    (l__law_right : K.lookup f__law_right = some ⟨oc__law_right, od__law_right, .func (PySem.W.fnOf "_law_right" "_law_right" (defArgs s__law_right) (defBody s__law_right) (defScope s__law_right) .none kV__law_right dc__law_right pm__law_right an__law_right cd__law_right ct__law_right), sl__law_right⟩)
    (c__law_right : PySem.W.codeIn K cd__law_right "_law_right" = true)
    (k__law_right : PySem.W.keepIn K (.ref f__law_right) = true)
    (a__law_compared_right : PySem.W.nsIn K mainGlobals "_law_compared_right" = some (some (.ref f__law_compared_right)))
    (l__law_compared_right : K.lookup f__law_compared_right = some ⟨oc__law_compared_right, od__law_compared_right, .func (PySem.W.fnOf "_law_compared_right" "_law_compared_right" (defArgs s__law_compared_right) (defBody s__law_compared_right) (defScope s__law_compared_right) .none kV__law_compared_right dc__law_compared_right pm__law_compared_right an__law_compared_right cd__law_compared_right ct__law_compared_right), sl__law_compared_right⟩)
    (c__law_compared_right : PySem.W.codeIn K cd__law_compared_right "_law_compared_right" = true)
    (k__law_compared_right : PySem.W.keepIn K (.ref f__law_compared_right) = true)
    (a_law : PySem.W.nsIn K mainGlobals "law" = some (some (.ref f_law)))
    (l_law : K.lookup f_law = some ⟨oc_law, od_law, .func (PySem.W.fnOf "law" "law" (defArgs s_law) (defBody s_law) (defScope s_law) .none kV_law dc_law pm_law an_law cd_law ct_law), sl_law⟩)
    (c_law : PySem.W.codeIn K cd_law "law" = true)
    (k_law : PySem.W.keepIn K (.ref f_law) = true)
    (pg_Share : PySem.W.plainGet K C_Share Str.empty = true)
    (hd_Share : PySem.W.hasDictIn K C_Share = true)
    (po_Share : PySem.W.plainOver K C_Share = true)
    (sa_Share : PySem.W.findIn K (.ref C_Share) "__setattr__" = some (some (.builtin "object.__setattr__")))
    (mkk_Share : PySem.W.makesIn K C_Share = true)
    (kc_Share : PySem.W.keepIn K (.ref C_Share) = true)
    (ha_Share : PySem.W.findIn K (.ref C_Share) "__class__" = some (some (.builtin "object.__class__")))
    (hn_Share : PySem.W.specialIn K (.builtin "object.__class__") "__get__" = some (some (.builtin "getset_descriptor.__get__")))
    (ht_Share : PySem.W.takesIn K (.builtin "object.__class__") = some true)
    (hm_Share : PySem.W.mroIn K C_Share (.type "object") = some true)
    (na_Share_part : PySem.W.findIn K (.ref C_Share) "part" = some none)
    (na_Share_whole : PySem.W.findIn K (.ref C_Share) "whole" = some none)
    (ne_Share : PySem.W.findIn K (.ref C_Share) "__ne__" = some (some (.builtin "object.__ne__")))
    (nf_Share_tuple : PySem.W.notFirst K C_Share (.type "tuple") = true)
    (nf_Share_str : PySem.W.notFirst K C_Share (.type "str") = true)
    (ko_Share_tuple : PySem.W.kitOne K (.type "tuple") (.ref C_Share) = some false)
    (ko_Share_str : PySem.W.kitOne K (.type "str") (.ref C_Share) = some false)
    (n_len : PySem.W.nsIn K mainGlobals "len" = some none)
    (n_abs : PySem.W.nsIn K mainGlobals "abs" = some none)
    (n_min : PySem.W.nsIn K mainGlobals "min" = some none)
    (n_all : PySem.W.nsIn K mainGlobals "all" = some none)
    (n_repr : PySem.W.nsIn K mainGlobals "repr" = some none)
    (n_str : PySem.W.nsIn K mainGlobals "str" = some none)
    (n_range : PySem.W.nsIn K mainGlobals "range" = some none)
    (n_enumerate : PySem.W.nsIn K mainGlobals "enumerate" = some none)
    (n_isinstance : PySem.W.nsIn K mainGlobals "isinstance" = some none)
    (n_bool : PySem.W.nsIn K mainGlobals "bool" = some none) : T26 K mg := {
  C_Share := C_Share
  f_common_part := f_common_part
  fd_common_part := _
  F_common_part := fun_mk (st := s_common_part) l_common_part c_common_part k_common_part
  b_common_part := (fun_mk (st := s_common_part) l_common_part c_common_part k_common_part).binds (ps := ["one", "other"]) fun _ _ _ _ _ _ us hl => match us, hl with | [_, _], _ => rfl
  mg_common_part := PySem.W.mg_of X G a_common_part
  f_Share___init__ := f_Share___init__
  fd_Share___init__ := _
  F_Share___init__ := fun_mk (st := s_Share___init__) l_Share___init__ c_Share___init__ k_Share___init__
  b_Share___init__ := (fun_mk (st := s_Share___init__) l_Share___init__ c_Share___init__ k_Share___init__).binds (ps := ["self", "part", "whole"]) fun _ _ _ _ _ _ us hl => match us, hl with | [_, _, _], _ => rfl
  a_Share___init__ := a_Share___init__
  i_Share___init__ := i_Share___init__
  f_Share___eq__ := f_Share___eq__
  fd_Share___eq__ := _
  F_Share___eq__ := fun_mk (st := s_Share___eq__) l_Share___eq__ c_Share___eq__ k_Share___eq__
  b_Share___eq__ := (fun_mk (st := s_Share___eq__) l_Share___eq__ c_Share___eq__ k_Share___eq__).binds (ps := ["self", "other"]) fun _ _ _ _ _ _ us hl => match us, hl with | [_, _], _ => rfl
  a_Share___eq__ := a_Share___eq__
  i_Share___eq__ := i_Share___eq__
  f_Share___str__ := f_Share___str__
  fd_Share___str__ := _
  F_Share___str__ := fun_mk (st := s_Share___str__) l_Share___str__ c_Share___str__ k_Share___str__
  b_Share___str__ := (fun_mk (st := s_Share___str__) l_Share___str__ c_Share___str__ k_Share___str__).binds (ps := ["self"]) fun _ _ _ _ _ _ us hl => match us, hl with | [_], _ => rfl
  a_Share___str__ := a_Share___str__
  i_Share___str__ := i_Share___str__
  f_Share___repr__ := f_Share___repr__
  fd_Share___repr__ := _
  F_Share___repr__ := fun_mk (st := s_Share___repr__) l_Share___repr__ c_Share___repr__ k_Share___repr__
  b_Share___repr__ := (fun_mk (st := s_Share___repr__) l_Share___repr__ c_Share___repr__ k_Share___repr__).binds (ps := ["self"]) fun _ _ _ _ _ _ us hl => match us, hl with | [_], _ => rfl
  a_Share___repr__ := a_Share___repr__
  i_Share___repr__ := i_Share___repr__
  f_Share_more_than := f_Share_more_than
  fd_Share_more_than := _
  F_Share_more_than := fun_mk (st := s_Share_more_than) l_Share_more_than c_Share_more_than k_Share_more_than
  b_Share_more_than := (fun_mk (st := s_Share_more_than) l_Share_more_than c_Share_more_than k_Share_more_than).binds (ps := ["self", "other"]) fun _ _ _ _ _ _ us hl => match us, hl with | [_, _], _ => rfl
  a_Share_more_than := a_Share_more_than
  i_Share_more_than := i_Share_more_than
  mt_Share_more_than := ⟨a_Share_more_than, i_Share_more_than, k_Share_more_than⟩
  f__law_begin := f__law_begin
  fd__law_begin := _
  F__law_begin := fun_mk (st := s__law_begin) l__law_begin c__law_begin k__law_begin
  b__law_begin := (fun_mk (st := s__law_begin) l__law_begin c__law_begin k__law_begin).binds (ps := ["_law_script"]) fun _ _ _ _ _ _ us hl => match us, hl with | [_], _ => rfl
  mg__law_begin := PySem.W.mg_of X G a__law_begin
  f__law_take := f__law_take
  fd__law_take := _
  F__law_take := fun_mk (st := s__law_take) l__law_take c__law_take k__law_take
  b__law_take := (fun_mk (st := s__law_take) l__law_take c__law_take k__law_take).binds (ps := ["_law_pot", "_law_width"]) fun _ _ _ _ _ _ us hl => match us, hl with | [_, _], _ => rfl
  mg__law_take := PySem.W.mg_of X G a__law_take
  f__law_of := f__law_of
  fd__law_of := _
  F__law_of := fun_mk (st := s__law_of) l__law_of c__law_of k__law_of
  b__law_of := (fun_mk (st := s__law_of) l__law_of c__law_of k__law_of).binds (ps := ["_law_pot", "_law_some"]) fun _ _ _ _ _ _ us hl => match us, hl with | [_, _], _ => rfl
  mg__law_of := PySem.W.mg_of X G a__law_of
  f__law_two := f__law_two
  fd__law_two := _
  F__law_two := fun_mk (st := s__law_two) l__law_two c__law_two k__law_two
  b__law_two := (fun_mk (st := s__law_two) l__law_two c__law_two k__law_two).binds (ps := ["_law_pot"]) fun _ _ _ _ _ _ us hl => match us, hl with | [_], _ => rfl
  mg__law_two := PySem.W.mg_of X G a__law_two
  f__law_common := f__law_common
  fd__law_common := _
  F__law_common := fun_mk (st := s__law_common) l__law_common c__law_common k__law_common
  b__law_common := (fun_mk (st := s__law_common) l__law_common c__law_common k__law_common).binds (ps := ["_law_one", "_law_other"]) fun _ _ _ _ _ _ us hl => match us, hl with | [_, _], _ => rfl
  mg__law_common := PySem.W.mg_of X G a__law_common
  f__law_right := f__law_right
  fd__law_right := _
  F__law_right := fun_mk (st := s__law_right) l__law_right c__law_right k__law_right
  b__law_right := (fun_mk (st := s__law_right) l__law_right c__law_right k__law_right).binds (ps := ["_law_few", "_law_around"]) fun _ _ _ _ _ _ us hl => match us, hl with | [_, _], _ => rfl
  mg__law_right := PySem.W.mg_of X G a__law_right
  f__law_compared_right := f__law_compared_right
  fd__law_compared_right := _
  F__law_compared_right := fun_mk (st := s__law_compared_right) l__law_compared_right c__law_compared_right k__law_compared_right
  b__law_compared_right := (fun_mk (st := s__law_compared_right) l__law_compared_right c__law_compared_right k__law_compared_right).binds (ps := ["_law_mine", "_law_yours"]) fun _ _ _ _ _ _ us hl => match us, hl with | [_, _], _ => rfl
  mg__law_compared_right := PySem.W.mg_of X G a__law_compared_right
  f_law := f_law
  fd_law := _
  F_law := fun_mk (st := s_law) l_law c_law k_law
  b_law := (fun_mk (st := s_law) l_law c_law k_law).binds (ps := ["_law_script"]) fun _ _ _ _ _ _ us hl => match us, hl with | [_], _ => rfl
  mg_law := PySem.W.mg_of X G a_law
  mg_Share := PySem.W.mg_of X G aC_Share
  cl_Share := ⟨pg_Share, hd_Share, po_Share, sa_Share⟩
  mk_Share := ⟨mkk_Share, a_Share___init__, i_Share___init__, kc_Share⟩
  ok_Share := ⟨⟨pg_Share, hd_Share, po_Share, sa_Share⟩, ha_Share, hn_Share, ht_Share, hm_Share⟩
  na_Share_part := na_Share_part
  na_Share_whole := na_Share_whole
  ne_Share := ne_Share
  nf_Share_tuple := nf_Share_tuple
  nf_Share_str := nf_Share_str
  ko_Share_tuple := ko_Share_tuple
  ko_Share_str := ko_Share_str
  n_len := PySem.W.mg_none_of X G n_len
  n_abs := PySem.W.mg_none_of X G n_abs
  n_min := PySem.W.mg_none_of X G n_min
  n_all := PySem.W.mg_none_of X G n_all
  n_repr := PySem.W.mg_none_of X G n_repr
  n_str := PySem.W.mg_none_of X G n_str
  n_range := PySem.W.mg_none_of X G n_range
  n_enumerate := PySem.W.mg_none_of X G n_enumerate
  n_isinstance := PySem.W.mg_none_of X G n_isinstance
  n_bool := PySem.W.mg_none_of X G n_bool }
end K26

namespace K26
open PySem PySem.Spec PyProof.Rows L2 MP
theorem gcd_step (a b : Int) (ha : 0 ≤ a) (hb : 0 ≤ b) : Int.gcd b (a % b) = Int.gcd a b := by
  obtain ⟨x, rfl⟩ := Int.eq_ofNat_of_zero_le ha
  obtain ⟨y, rfl⟩ := Int.eq_ofNat_of_zero_le hb
  show Nat.gcd y (x % y) = Nat.gcd x y
  rw [Nat.gcd_comm x y, Nat.gcd_rec y x, Nat.gcd_comm]
theorem gcd_loop {tc : LT} {lb : LS} (ht : ∀ (a b : Int) S, 0 ≤ b → tc [some (.int a), some (.int b)] S = .ok (decide (0 < b)) S) (hb : ∀ (a b : Int) S, 0 < b → lb [some (.int a), some (.int b)] S = .ok (.nx [some (.int b), some (.int (a % b))]) S) (x y : D) :
    ∀ (n : Nat) (a b : Int) (S : Sto), 0 ≤ a → 0 ≤ b → b < n → whileG [some x, some y] tc lb n [some (.int a), some (.int b)] S = .ok (.nx [some (.int (Int.gcd a b)), some (.int 0)]) S
  | 0, a, b, S, ha, hb0, hn => by omega
  | n + 1, a, b, S, ha, hb0, hn => by
    have e := ht a b S hb0
    by_cases z : 0 < b
    · rw [decide_eq_true z] at e
      refine while_go e (hb a b S z) ?_
      have hm := Int.emod_nonneg a (Int.ne_of_gt z)
      have hl := Int.emod_lt_of_pos a z
      have r := gcd_loop ht hb x y n b (a % b) S hb0 hm (by omega)
      rw [gcd_step a b ha hb0] at r
      exact r
    · rw [decide_eq_false z] at e
      have hb1 : b = 0 := by omega
      subst hb1
      rw [while_end e, Int.gcd_zero_right]
      congr 6
      omega
theorem fuel_ok {b : Int} (h : b < 10 ^ 200) : b < ((2 ^ 4000 : Nat) : Int) := Int.lt_of_lt_of_le h (by decide +kernel)
end K26

namespace K26
open PySem PySem.Spec PyProof.Rows L2 MP
/-! ### what each def promises -/
def SCommon (g : F) : Prop := ∀ (S : Sto) (a b : Int), 0 ≤ a → 0 ≤ b → b < 10 ^ 200 → g [.int a, .int b] S = .ok (.int (Int.gcd a b)) S
def shD (C : Addr) (a b : Int) : D := .obj C [("part", .int a), ("whole", .int b)]
def shF (C : Addr) : F := fun ds S => match ds with
  | [.int p, .int q] => if 0 ≤ p ∧ 0 < q ∧ p < 10 ^ 200 ∧ q < 10 ^ 200 then .ok (shD C (p / Int.gcd q p) (q / Int.gcd q p)) S else .bad
  | _ => .bad
def shFk (C : Addr) : F := fun ds S => match ds with
  | [q, p] => shF C [p, q] S
  | _ => .bad
def shOf (C : Addr) : D → Option (Int × Int)
  | .obj C' [(f, .int a), (h, .int b)] => if C' = C ∧ f = "part" ∧ h = "whole" then some (a, b) else none
  | _ => none
def gpEq (C : Addr) : G2 := fun S x y => match shOf C x with
  | some (a, b) => match shOf C y with
    | some (c, d) => some (.bl (decide (a = c ∧ b = d)))
    | none => match y with
      | .tup _ => some (.bl false)
      | .str _ => some (.bl false)
      | _ => none
  | none => none
def gpStr (C : Addr) (S : Sto) (x : D) : Option D := match shOf C x with
  | some (a, b) => if 0 ≤ a ∧ 0 ≤ b ∧ a < 10 ^ 200 ∧ b < 10 ^ 200 then some (.str (Str.ofString (toString a) ++ "/" ++ Str.ofString (toString b))) else none
  | none => none
def gpRepr (C : Addr) (S : Sto) (x : D) : Option D := match shOf C x with
  | some (a, b) => if 0 ≤ a ∧ 0 ≤ b ∧ a < 10 ^ 200 ∧ b < 10 ^ 200 then some (.str ("Share(" ++ Str.ofString (toString a) ++ ", " ++ Str.ofString (toString b) ++ ")")) else none
  | none => none
def SMore (C : Addr) (g : F) : Prop := ∀ (S : Sto) (a b c d : Int), 0 ≤ a → 0 ≤ b → 0 ≤ c → 0 ≤ d → a < 10 ^ 200 → b < 10 ^ 200 → c < 10 ^ 200 → d < 10 ^ 200 → g [shD C a b, shD C c d] S = .ok (.bl (decide (c * b < a * d))) S
def STwo (g : F) : Prop := ∀ (n : Int) (S : Sto) (d : D), Pot n S d → n < 10 ^ 29 → ∃ a b S', g [d] S = .ok (.tup [.int a, .int b]) S' ∧ 0 ≤ a ∧ a ≤ b ∧ 0 < b ∧ b < 10 ^ 61 ∧ Pot (n + 10) S' d
def SRight (g : F) : Prop := ∀ (S : Sto) (a b : Int), 0 ≤ a → a ≤ b → 0 < b → b < 10 ^ 61 → g [.int a, .int b] S = .ok (.bl true) S
def SCmp (g : F) : Prop := ∀ (S : Sto) (a b c d : Int), 0 ≤ a → a ≤ b → 0 < b → b < 10 ^ 61 → 0 ≤ c → c ≤ d → 0 < d → d < 10 ^ 61 → g [.tup [.int a, .int b], .tup [.int c, .int d]] S = .ok (.bl true) S
def SLaw (g : F) : Prop := ∀ (ns : List Int), ns.length ≤ 63 → ∃ S', g [.lst (ns.map D.int)] [] = .ok (.bl true) S'
def tabSh (C : Addr) : Tab
  | .obj C' => if C' = C then some true else none
  | .tup => some false
  | .str => some false
  | _ => none
def tabBool : Tab
  | .int => some false
  | _ => none
theorem isi_bool {K : PySem.W.Frag} : IsiOk K (.type "bool") tabBool := ⟨fun t b h => by
  cases t with
  | int => cases h; exact ⟨kit_ty (by decide +kernel), fun C z => nomatch z⟩
  | _ => cases h⟩
theorem T26.isi_Share {K : PySem.W.Frag} {mg : Str → Option Value} (T : T26 K mg) : IsiOk K (.ref T.C_Share) (tabSh T.C_Share) := ⟨fun t b h => by
  cases t with
  | obj C' =>
    unfold tabSh at h
    dsimp only at h
    split at h
    · rename_i hc
      cases h
      subst hc
      exact ⟨if_pos (beq_self_eq_true _), fun C z => by cases z; exact T.ok_Share⟩
    · cases h
  | tup => cases h; exact ⟨T.ko_Share_tuple, fun C z => nomatch z⟩
  | str => cases h; exact ⟨T.ko_Share_str, fun C z => nomatch z⟩
  | _ => cases h⟩
def tsSh (C : Addr) : List Tg := [.tup, .str, .obj C]
theorem T26.kw_Share {K : PySem.W.Frag} {mg : Str → Option Value} (T : T26 K mg) : KwB K T.fd_Share___init__ ["self", "part", "whole"] 1 ["whole", "part"] [0, 2, 1] [] :=
  kwb T.F_Share___init__ rfl (by decide) fun _ _ _ _ _ _ us ws h1 h2 => match us, h1, ws, h2 with | [_], _, [_, _], _ => rfl
/-! ### a share is made -/
theorem st_new {C : Addr} {f : Str} {S : Sto} {fs : List (Str × D)} {d : D} (h : fs.length < 1000) : stFld C f (S ++ [.ins C fs]) (.ref S.length) d = some (S ++ [.ins C (putD f d fs)]) := by
  unfold stFld
  have e : (S ++ [O.ins C fs])[S.length]? = some (.ins C fs) := by simp
  have e2 : (S ++ [O.ins C fs]).set S.length (.ins C (putD f d fs)) = S ++ [.ins C (putD f d fs)] := by simp
  dsimp only
  rw [e]
  dsimp only
  rw [if_pos ⟨rfl, h⟩, e2]
theorem mk_rle {C : Addr} {a b : Int} {S : Sto} {r : R D} (h : r = .ok .non (S ++ [.ins C [("part", .int a), ("whole", .int b)]])) : RLe S (.ok (shD C a b) S) (r.bind fun d S1 => match d with
      | .non => .ok (.ref S.length) S1
      | _ => .bad) := by
  rw [h]
  refine .gc _ _ _ (by simp) ?_ rfl
  have e : (S ++ [O.ins C [("part", D.int a), ("whole", D.int b)]])[S.length]? = some (.ins C [("part", .int a), ("whole", .int b)]) := by simp
  have e0 : fz0 (S ++ [O.ins C [("part", D.int a), ("whole", D.int b)]]) S.length (.ref S.length) = shD C a b := by
    unfold fz0
    dsimp only
    rw [if_neg (Nat.lt_irrefl _)]
    unfold vw
    dsimp only
    rw [e]
    rfl
  unfold fz
  rw [e0]
  rfl
theorem init_rles {C : Addr} {g : F} (run : ∀ (p q : Int) (S : Sto), 0 ≤ p ∧ 0 < q ∧ p < 10 ^ 200 ∧ q < 10 ^ 200 → g [.ref S.length, .int p, .int q] (S ++ [.ins C []]) = .ok .non (S ++ [.ins C [("part", .int (p / Int.gcd q p)), ("whole", .int (q / Int.gcd q p))]])) :
    (∀ ds S, RLe S (shF C ds S) (mkF C g ds S)) ∧ ∀ es S, es.length = 2 → RLe S (shFk C es S) ((g (pick [0, 2, 1] (.ref S.length :: es ++ [])) (S ++ [.ins C []])).bind fun d S1 => match d with
      | .non => .ok (.ref S.length) S1
      | _ => .bad) := by
  refine ⟨fun ds S => ?_, fun es S hl => ?_⟩
  · unfold shF
    split
    · rename_i p q
      split
      · rename_i h
        exact mk_rle (run p q S h)
      · exact .bad _
    · exact .bad _
  · unfold shFk
    split
    · rename_i q p
      unfold shF
      split
      · rename_i p' q' e
        cases e
        split
        · rename_i h
          exact mk_rle (run p' q' S h)
        · exact .bad _
      · exact .bad _
    · exact .bad _
/-! ### what a share tells -/
theorem shOf_inv {C : Addr} {x : D} {a b : Int} (h : shOf C x = some (a, b)) : x = shD C a b := by
  unfold shOf at h
  split at h
  · split at h
    · rename_i hc
      obtain ⟨rfl, rfl, rfl⟩ := hc
      cases h
      rfl
    · cases h
  · cases h
theorem rle_eq {S : Sto} {a b : R D} (h : b = a) : RLe S a b := h ▸ .refl _
theorem sh_part {C : Addr} {S : Sto} {a b : Int} : gFld C "part" S (shD C a b) = some (.int a) := by
  show (if C = C then [(("part" : Str), D.int a), (("whole" : Str), D.int b)].lookup ("part" : Str) else none) = _
  rw [if_pos rfl]; rfl
theorem sh_whole {C : Addr} {S : Sto} {a b : Int} : gFld C "whole" S (shD C a b) = some (.int b) := by
  show (if C = C then [(("part" : Str), D.int a), (("whole" : Str), D.int b)].lookup ("whole" : Str) else none) = _
  rw [if_pos rfl]; rfl
theorem Sm.of200 {i : Int} (h0 : 0 ≤ i) (h1 : i < 10 ^ 200) : Sm i := Sm.of h0 h1 (by decide +kernel)
theorem isi_sh {C : Addr} {S S1 : Sto} {l : LE} {ρ : Ev} {a b : Int} (h : l ρ S = .ok (shD C a b) S1) : lIsi (tabSh C) l ρ S = .ok (.bl true) S1 := by
  unfold lIsi; rw [h, bind_ok]
  show lift1 ((tabSh C (.obj C)).map D.bl) S1 = _
  unfold tabSh
  dsimp only
  rw [if_pos rfl]; rfl
theorem andv_tt {la lb : LE} {ρ : Ev} {S S1 : Sto} {d : D} {r : R D} (h : la ρ S = .ok d S1) (ht : truth S1 d = some true) (h2 : lb ρ S1 = r) : lAndV la lb ρ S = r := by
  unfold lAndV; rw [h, bind_ok, ht]; exact h2
theorem andv_ff {la lb : LE} {ρ : Ev} {S S1 : Sto} {d : D} (h : la ρ S = .ok d S1) (ht : truth S1 d = some false) : lAndV la lb ρ S = .ok d S1 := by
  unfold lAndV; rw [h, bind_ok, ht]; rfl
theorem fmt_int {l : LE} {ρ : Ev} {S S1 : Sto} {i : Int} (h : l ρ S = .ok (.int i) S1) (hs : Sm i) : lFmt l ρ S = .ok (.str (Str.ofString (toString i))) S1 := by
  have := hs.lg
  unfold lFmt; rw [h, bind_ok]
  show lift1 (if i.natAbs.log2 < 1920 then some (D.str (toString i)) else none) S1 = _
  rw [if_pos (by omega)]; rfl
theorem txt_le {i : Int} (h : Sm i) : (Str.ofString (toString i)).length ≤ 1921 := int_text_len_1921 (by have := h.lg; omega)
theorem sz {n : Nat} (h : n ≤ 100000) : n ≤ sizeLine := Nat.le_trans h (by decide)
theorem empty_app (x : Str) : Str.empty ++ x = x := by
  cases x
  show Str.mk _ = _
  simp [Str.empty]
theorem len_app (x y : Str) : (x ++ y).length = x.length + y.length := by
  show (x.cps ++ y.cps).size = _
  rw [Array.size_append]; rfl
theorem len_slash : ("/" : Str).length = 1 := by decide
theorem len_Share : ("Share(" : Str).length = 6 := by decide
theorem len_comma : (", " : Str).length = 2 := by decide
theorem len_close : (")" : Str).length = 1 := by decide
theorem jcons_ok {l : LE} {t : LJ} {acc y out : Str} {ρ : Ev} {S S1 S2 : Sto} (h : l ρ S = .ok (.str y) S1) (hz : (acc ++ y).length ≤ sizeLine) (h2 : t (acc ++ y) ρ S1 = .ok out S2) : jCons l t acc ρ S = .ok out S2 := by
  unfold jCons; rw [h, bind_ok]; dsimp only; rw [if_pos hz]; exact h2
theorem join_ok {t : LJ} {out : Str} {ρ : Ev} {S S2 : Sto} (h : t Str.empty ρ S = .ok out S2) : lJoin t ρ S = .ok (.str out) S2 := by
  unfold lJoin; rw [h, bind_ok]
section
variable {P : Program} {w : World} {K : PySem.W.Frag} {mg : Str → Option Value} {base : Heap}
theorem ok_common (T : T26 K mg) : ∃ g, FnL P w K mg base 1 T.f_common_part T.fd_common_part ["one", "other"] g ∧ SCommon g := ⟨_, Fun.okL T.F_common_part sc_common_part fun cdv A outer s H E hr =>
(pssl_cons (psl_while (2 ^ 4000) (passes_of rfl) (ptl_cmp opl_gtI (pel_var (i := 1)) pel_int) (pssl_one (psl_par (i := 0) (j := 1) rfl sc_common_part.nd (pal_cons (pel_var (i := 1)) (pal_cons (pel_op opl_mod (pel_var (i := 0)) (pel_var (i := 1))) pal_nil)))))
  (pssl_one (psl_ret (pel_var (i := 0))))), fun S a b ha hb hl => body_rt (seq_nx (gcd_loop (fun a b S _ => rfl) (fun a b S h => par_ok (acons_ok rfl (acons_ok (bin_ok rfl rfl (mod_ii h)) rfl))) (.int a) (.int b) (2 ^ 4000) a b S ha hb (fuel_ok hl)) (ret_ok rfl))⟩
theorem ok_init (T : T26 K mg) : ∃ g, FnL P w K mg base 2 T.f_Share___init__ T.fd_Share___init__ ["self", "part", "whole"] g ∧ (∀ ds S, RLe S (shF T.C_Share ds S) (mkF T.C_Share g ds S)) ∧
    ∀ es S, es.length = 2 → RLe S (shFk T.C_Share es S) ((g (pick [0, 2, 1] (.ref S.length :: es ++ [])) (S ++ [.ins T.C_Share []])).bind fun d S1 => match d with
      | .non => .ok (.ref S.length) S1
      | _ => .bad) := by
  obtain ⟨gc, Fn_common_part, Sc⟩ := ok_common (P := P) (w := w) (base := base) T
  refine ⟨_, Fun.okL T.F_Share___init__ sc_Share___init__ fun cdv A outer s H E hr =>
(pssl_cons (psl_set (i := 3) sc_Share___init__.nd (pel_call Fn_common_part (hr.mono (by decide)) rfl T.mg_common_part T.F_common_part.kp T.b_common_part dfl_nil (pal_cons (pel_var (i := 2)) (pal_cons (pel_var (i := 1)) pal_nil))))
  (pssl_cons (psl_fld T.cl_Share T.na_Share_part (pel_var (i := 0)) (pel_op opl_div (pel_var (i := 1)) (pel_var (i := 3))))
  (pssl_one (psl_fld T.cl_Share T.na_Share_whole (pel_var (i := 0)) (pel_op opl_div (pel_var (i := 2)) (pel_var (i := 3))))))), ?_⟩
  refine init_rles fun p q S ⟨h0, h1, h2, h3⟩ => ?_
  have g0 : 0 < ((Int.gcd q p : Nat) : Int) := by
    have := Int.gcd_pos_of_ne_zero_left p (Int.ne_of_gt h1)
    omega
  have gs : Sm ((Int.gcd q p : Nat) : Int) := by
    refine Sm.of (by omega) (n := 10 ^ 200) ?_ (by decide +kernel)
    exact Int.lt_of_le_of_lt (Int.le_of_dvd h1 (Int.gcd_dvd_left q p)) h3
  exact body_nx (seq_nx (set_ok (call_ok (acons_ok rfl (acons_ok rfl rfl)) rfl (Sc _ _ _ (by omega) h0 h2))) (seq_nx (stF_ok (bin_ok rfl rfl (div_ii g0 gs)) rfl (st_new (fs := []) (by decide))) (stF_ok (bin_ok rfl rfl (div_ii g0 gs)) rfl (st_new (by show 1 < 1000; decide)))))
theorem ok_eq (T : T26 K mg) : FnL P w K mg base 1 T.f_Share___eq__ T.fd_Share___eq__ ["self", "other"] (F2 (gpEq T.C_Share)) := by
  refine FnL.le (Fun.okL T.F_Share___eq__ sc_Share___eq__ fun cdv A outer s H E hr =>
(pssl_one (psl_ret (pel_and (pel_isi rfl T.n_isinstance (pel_var (i := 1)) (pe_glob rfl T.mg_Share (v := .ref T.C_Share) rfl) (.own _) T.isi_Share) (pel_one (pel_cmp (opl_eq hr.units) (pel_tup (pal_cons (pel_fld T.cl_Share T.na_Share_part (pel_var (i := 0))) (pal_cons (pel_fld T.cl_Share T.na_Share_whole (pel_var (i := 0))) pal_nil))) (pel_tup (pal_cons (pel_fld T.cl_Share T.na_Share_part (pel_var (i := 1))) (pal_cons (pel_fld T.cl_Share T.na_Share_whole (pel_var (i := 1))) pal_nil))))))))) fun ds S hl => ?_
  match ds, hl with
  | [x, y], _ =>
    show RLe S (lift1 (gpEq T.C_Share S x y) S) _
    unfold gpEq
    split
    · rename_i a b hx
      have ex := shOf_inv hx
      subst ex
      split
      · rename_i c d hy
        have ey := shOf_inv hy
        subst ey
        exact rle_eq (body_rt (ret_ok (andv_tt (isi_sh rfl) rfl (bin_ok (tup_ok (acons_ok (fld_ok rfl sh_part) (acons_ok (fld_ok rfl sh_whole) rfl)) (by simp)) (tup_ok (acons_ok (fld_ok rfl sh_part) (acons_ok (fld_ok rfl sh_whole) rfl)) (by simp)) eq_t2))))
      · split
        · exact rle_eq (body_rt (ret_ok (andv_ff (d := .bl false) rfl rfl)))
        · exact rle_eq (body_rt (ret_ok (andv_ff (d := .bl false) rfl rfl)))
        · exact .bad _
    · exact .bad _
theorem ok_str (T : T26 K mg) : FnL P w K mg base 1 T.f_Share___str__ T.fd_Share___str__ ["self"] (F1 (gpStr T.C_Share)) := by
  refine FnL.le (Fun.okL T.F_Share___str__ sc_Share___str__ fun cdv A outer s H E hr =>
(pssl_one (psl_ret (pel_join (pjl_cons (pel_fmt (pel_fld T.cl_Share T.na_Share_part (pel_var (i := 0)))) (pjl_cons pel_str (pjl_cons (pel_fmt (pel_fld T.cl_Share T.na_Share_whole (pel_var (i := 0)))) pjl_nil))))))) fun ds S hl => ?_
  match ds, hl with
  | [x], _ =>
    show RLe S (lift1 (gpStr T.C_Share S x) S) _
    unfold gpStr
    split
    · rename_i a b hx
      have ex := shOf_inv hx
      subst ex
      split
      · rename_i h
        have ha := Sm.of200 h.1 h.2.2.1
        have hb := Sm.of200 h.2.1 h.2.2.2
        have la := txt_le ha
        have lb := txt_le hb
        refine rle_eq (body_rt (ret_ok (join_ok (jcons_ok (fmt_int (fld_ok rfl sh_part) ha) ?_ (jcons_ok rfl ?_ (jcons_ok (fmt_int (fld_ok rfl sh_whole) hb) ?_ ?_))))))
        · rw [empty_app]; exact sz (by omega)
        · rw [empty_app, len_app]; exact sz (by simp only [len_slash]; omega)
        · rw [empty_app, len_app, len_app]; exact sz (by simp only [len_slash]; omega)
        · rw [empty_app]; rfl
      · exact .bad _
    · exact .bad _
theorem ok_repr (T : T26 K mg) : FnL P w K mg base 1 T.f_Share___repr__ T.fd_Share___repr__ ["self"] (F1 (gpRepr T.C_Share)) := by
  refine FnL.le (Fun.okL T.F_Share___repr__ sc_Share___repr__ fun cdv A outer s H E hr =>
(pssl_one (psl_ret (pel_join (pjl_cons pel_str (pjl_cons (pel_fmt (pel_fld T.cl_Share T.na_Share_part (pel_var (i := 0)))) (pjl_cons pel_str (pjl_cons (pel_fmt (pel_fld T.cl_Share T.na_Share_whole (pel_var (i := 0)))) (pjl_cons pel_str pjl_nil))))))))) fun ds S hl => ?_
  match ds, hl with
  | [x], _ =>
    show RLe S (lift1 (gpRepr T.C_Share S x) S) _
    unfold gpRepr
    split
    · rename_i a b hx
      have ex := shOf_inv hx
      subst ex
      split
      · rename_i h
        have ha := Sm.of200 h.1 h.2.2.1
        have hb := Sm.of200 h.2.1 h.2.2.2
        have la := txt_le ha
        have lb := txt_le hb
        refine rle_eq (body_rt (ret_ok (join_ok (jcons_ok rfl ?_ (jcons_ok (fmt_int (fld_ok rfl sh_part) ha) ?_ (jcons_ok rfl ?_ (jcons_ok (fmt_int (fld_ok rfl sh_whole) hb) ?_ (jcons_ok rfl ?_ ?_))))))))
        · rw [empty_app]; exact sz (by simp only [len_Share]; omega)
        · rw [empty_app, len_app]; exact sz (by simp only [len_Share]; omega)
        · rw [empty_app, len_app, len_app]; exact sz (by simp only [len_Share, len_comma]; omega)
        · rw [empty_app, len_app, len_app, len_app]; exact sz (by simp only [len_Share, len_comma]; omega)
        · rw [empty_app, len_app, len_app, len_app, len_app]; exact sz (by simp only [len_Share, len_comma, len_close]; omega)
        · rw [empty_app]; rfl
      · exact .bad _
    · exact .bad _
theorem ok_more (T : T26 K mg) : ∃ g, FnL P w K mg base 1 T.f_Share_more_than T.fd_Share_more_than ["self", "other"] g ∧ SMore T.C_Share g := ⟨_, Fun.okL T.F_Share_more_than sc_Share_more_than fun cdv A outer s H E hr =>
(pssl_one (psl_ret (pel_cmp opl_gtI (pel_op opl_mul (pel_fld T.cl_Share T.na_Share_part (pel_var (i := 0))) (pel_fld T.cl_Share T.na_Share_whole (pel_var (i := 1)))) (pel_op opl_mul (pel_fld T.cl_Share T.na_Share_part (pel_var (i := 1))) (pel_fld T.cl_Share T.na_Share_whole (pel_var (i := 0))))))), fun S a b c d ha hb hc hd ha' hb' hc' hd' => body_rt (ret_ok (bin_ok (bin_ok (fld_ok rfl sh_part) (fld_ok rfl sh_whole) (mul_ii (Sm.of200 ha ha') (Sm.of200 hd hd'))) (bin_ok (fld_ok rfl sh_part) (fld_ok rfl sh_whole) (mul_ii (Sm.of200 hc hc') (Sm.of200 hb hb'))) rfl))⟩
theorem ok_lcommon (T : T26 K mg) : ∃ g, FnL P w K mg base 1 T.f__law_common T.fd__law_common ["_law_one", "_law_other"] g ∧ SCommon g := ⟨_, Fun.okL T.F__law_common sc__law_common fun cdv A outer s H E hr =>
(pssl_cons (psl_while (2 ^ 4000) (passes_of rfl) (ptl_cmp (opl_ne hr.units) (pel_var (i := 1)) pel_int) (pssl_one (psl_par (i := 0) (j := 1) rfl sc__law_common.nd (pal_cons (pel_var (i := 1)) (pal_cons (pel_op opl_mod (pel_var (i := 0)) (pel_var (i := 1))) pal_nil)))))
  (pssl_one (psl_ret (pel_var (i := 0))))), fun S a b ha hb hl => body_rt (seq_nx (gcd_loop (fun a b S h => by
    have e : decide (0 < b) = !decide (b = 0) := by
      by_cases z : b = 0
      · subst z; rfl
      · rw [decide_eq_true (by omega), decide_eq_false z]; rfl
    rw [e]
    rfl) (fun a b S h => par_ok (acons_ok rfl (acons_ok (bin_ok rfl rfl (mod_ii h)) rfl))) (.int a) (.int b) (2 ^ 4000) a b S ha hb (fuel_ok hl)) (ret_ok rfl))⟩
end
end K26

namespace K26
open PySem PySem.Spec PyProof.Rows L2 MP
section
variable {P : Program} {w : World} {K : PySem.W.Frag} {mg : Str → Option Value} {base : Heap}
theorem ok_begin (T : T26 K mg) : ∃ g, FnL P w K mg base 1 T.f__law_begin T.fd__law_begin ["_law_script"] g ∧ SBegin g := ⟨_, Fun.okL T.F__law_begin sc__law_begin fun cdv A outer s H E hr =>
(pssl_cons (psl_par (i := 1) (j := 2) rfl sc__law_begin.nd (pal_cons (pel_op opl_add (pel_callB (cl_len) rfl T.n_len (by decide +kernel) (pal_cons (pel_var (i := 0)) pal_nil)) pel_int) (pal_cons (pel_lstN pal_nil) pal_nil)))
  (pssl_cons (psl_for (passes_of rfl) rfl (pil_enum rfl T.n_enumerate (pal_cons (pel_slice sll_any (pel_var (i := 0)) pol_none (pol_some pel_int)) pal_nil)) (pgl_tup (n := 2) rfl (pgsl_cons (pgl_name (i := 3) sc__law_begin.nd) (pgsl_cons (pgl_name (i := 4) sc__law_begin.nd) pgsl_nil))) (pssl_cons (psl_set (i := 1) sc__law_begin.nd (pel_op opl_mod (pel_op opl_add (pel_op opl_add (pel_op opl_mul (pel_var (i := 1)) pel_int) (pel_op opl_mod (pel_var (i := 4)) (pel_op opl_pow pel_int pel_int))) (pel_op opl_mul pel_int (pel_var (i := 3)))) pel_int))
  (pssl_one (psl_if (ptl_cmp opl_geI (pel_callB (cl_abs) rfl T.n_abs (by decide +kernel) (pal_cons (pel_var (i := 4)) pal_nil)) (pel_op opl_pow pel_int pel_int)) (pssl_one (psl_expr (pel_append (pel_var (i := 2)) (pel_op opl_mod (pel_callB (cl_abs) rfl T.n_abs (by decide +kernel) (pal_cons (pel_var (i := 4)) pal_nil)) (pel_op opl_mul (pel_op opl_pow pel_int pel_int) (pel_op opl_pow pel_int pel_int)))))) pssl_nil))))
  (pssl_one (psl_ret (pel_lstN (pal_cons (pel_var (i := 2)) (pal_cons (pel_var (i := 1)) (pal_cons pel_int pal_nil)))))))), begin_spec⟩
theorem ok_take (T : T26 K mg) : ∃ g, FnL P w K mg base 1 T.f__law_take T.fd__law_take ["_law_pot", "_law_width"] g ∧ STake g := ⟨_, Fun.okL T.F__law_take sc__law_take fun cdv A outer s H E hr =>
(pssl_cons (psl_while (2 ^ 4000) (passes_of rfl) (PWL.pt (pwl_and (ptl_cmp (opl_ne hr.units) (pel_ix ixl_seq (pel_var (i := 0)) pel_int) (pel_lst pal_nil)) (pwl_and1 (ptl_cmp (opl_eq hr.units) (pel_ix ixl_seq (pel_ix ixl_seq (pel_var (i := 0)) pel_int) pel_int) pel_int)))) (pssl_one (psl_expr (pel_popAt (pel_ix ixl_seq (pel_var (i := 0)) pel_int) pel_int))))
  (pssl_cons (psl_if (ptl_cmp (opl_ne hr.units) (pel_ix ixl_seq (pel_var (i := 0)) pel_int) (pel_lst pal_nil)) (pssl_cons (psl_set (i := 2) sc__law_take.nd (pel_op opl_mod (pel_ix ixl_seq (pel_ix ixl_seq (pel_var (i := 0)) pel_int) pel_int) (pel_var (i := 1))))
  (pssl_cons (psl_sub psetl_seq (pel_ix ixl_seq (pel_var (i := 0)) pel_int) pel_int (pel_op opl_div (pel_ix ixl_seq (pel_ix ixl_seq (pel_var (i := 0)) pel_int) pel_int) (pel_var (i := 1))))
  (pssl_one (psl_ret (pel_var (i := 2)))))) pssl_nil)
  (pssl_cons (psl_sub psetl_seq (pel_var (i := 0)) pel_int (pel_op opl_add (pel_ix ixl_seq (pel_var (i := 0)) pel_int) pel_int))
  (pssl_cons (psl_set (i := 3) sc__law_take.nd (pel_op opl_mod (pel_op opl_mul (pel_op opl_add (pel_op opl_add (pel_ix ixl_seq (pel_var (i := 0)) pel_int) (pel_op opl_mul (pel_op opl_mul pel_int (pel_ix ixl_seq (pel_var (i := 0)) pel_int)) (pel_ix ixl_seq (pel_var (i := 0)) pel_int))) pel_int) pel_int) pel_int))
  (pssl_cons (psl_set (i := 3) sc__law_take.nd (pel_op opl_mod (pel_op opl_mul (pel_var (i := 3)) (pel_op opl_add (pel_op opl_mod (pel_var (i := 3)) pel_int) (pel_op opl_mul pel_int (pel_ix ixl_seq (pel_var (i := 0)) pel_int)))) pel_int))
  (pssl_one (psl_ret (pel_op opl_mod (pel_op opl_add (pel_op opl_div (pel_var (i := 3)) pel_int) (pel_op opl_div (pel_var (i := 3)) pel_int)) (pel_var (i := 1)))))))))), take_spec⟩
theorem ok_of (T : T26 K mg) : ∃ g, FnL P w K mg base 2 T.f__law_of T.fd__law_of ["_law_pot", "_law_some"] g ∧ SOf g := by
  obtain ⟨gt, Fn__law_take, St⟩ := ok_take (P := P) (w := w) (base := base) T
  refine ⟨_, Fun.okL T.F__law_of sc__law_of fun cdv A outer s H E hr =>
(pssl_one (psl_ret (pel_ix ixl_seq (pel_var (i := 1)) (pel_call Fn__law_take (hr.mono (by decide)) rfl T.mg__law_take T.F__law_take.kp T.b__law_take dfl_nil (pal_cons (pel_var (i := 0)) (pal_cons (pel_callB (cl_len) rfl T.n_len (by decide +kernel) (pal_cons (pel_var (i := 1)) pal_nil)) pal_nil)))))), of_spec St⟩
theorem ok_two (T : T26 K mg) : ∃ g, FnL P w K mg base 3 T.f__law_two T.fd__law_two ["_law_pot"] g ∧ STwo g := by
  obtain ⟨gt, Fn__law_take, St⟩ := ok_take (P := P) (w := w) (base := base) T
  obtain ⟨go, Fn__law_of, So⟩ := ok_of (P := P) (w := w) (base := base) T
  refine ⟨_, Fun.okL T.F__law_two sc__law_two fun cdv A outer s H E hr =>
(pssl_cons (psl_set (i := 1) sc__law_two.nd (pel_call Fn__law_of (hr.mono (by decide)) rfl T.mg__law_of T.F__law_of.kp T.b__law_of dfl_nil (pal_cons (pel_var (i := 0)) (pal_cons (pel_lst (pal_cons pel_int (pal_cons pel_int (pal_cons pel_int (pal_cons pel_int (pal_cons pel_int (pal_cons (pel_op opl_add (pel_op opl_pow pel_int pel_int) pel_int) (pal_cons (pel_op opl_add pel_int (pel_call Fn__law_take (hr.mono (by decide)) rfl T.mg__law_take T.F__law_take.kp T.b__law_take dfl_nil (pal_cons (pel_var (i := 0)) (pal_cons (pel_op opl_pow pel_int pel_int) pal_nil)))) pal_nil)))))))) pal_nil))))
  (pssl_cons (psl_set (i := 2) sc__law_two.nd (pel_call Fn__law_of (hr.mono (by decide)) rfl T.mg__law_of T.F__law_of.kp T.b__law_of dfl_nil (pal_cons (pel_var (i := 0)) (pal_cons (pel_lst (pal_cons pel_int (pal_cons pel_int (pal_cons pel_int (pal_cons pel_int (pal_cons pel_int (pal_cons (pel_op opl_sub (pel_op opl_pow pel_int pel_int) pel_int) (pal_cons (pel_op opl_add pel_int (pel_call Fn__law_take (hr.mono (by decide)) rfl T.mg__law_take T.F__law_take.kp T.b__law_take dfl_nil (pal_cons (pel_var (i := 0)) (pal_cons (pel_op opl_pow pel_int pel_int) pal_nil)))) pal_nil)))))))) pal_nil))))
  (pssl_cons (psl_set (i := 3) sc__law_two.nd (pel_call Fn__law_of (hr.mono (by decide)) rfl T.mg__law_of T.F__law_of.kp T.b__law_of dfl_nil (pal_cons (pel_var (i := 0)) (pal_cons (pel_lst (pal_cons pel_int (pal_cons pel_int (pal_cons (pel_var (i := 2)) (pal_cons (pel_op opl_sub (pel_var (i := 2)) pel_int) (pal_cons (pel_op opl_div (pel_var (i := 2)) pel_int) (pal_cons (pel_call Fn__law_take (hr.mono (by decide)) rfl T.mg__law_take T.F__law_take.kp T.b__law_take dfl_nil (pal_cons (pel_var (i := 0)) (pal_cons (pel_op opl_add (pel_var (i := 2)) pel_int) pal_nil))) (pal_cons (pel_call Fn__law_take (hr.mono (by decide)) rfl T.mg__law_take T.F__law_take.kp T.b__law_take dfl_nil (pal_cons (pel_var (i := 0)) (pal_cons (pel_op opl_add (pel_var (i := 2)) pel_int) pal_nil))) pal_nil)))))))) pal_nil))))
  (pssl_one (psl_ret (pel_tup (pal_cons (pel_op opl_mul (pel_callB (cl_min2 rfl) rfl T.n_min (by decide +kernel) (pal_cons (pel_var (i := 3)) (pal_cons (pel_var (i := 2)) pal_nil))) (pel_var (i := 1))) (pal_cons (pel_op opl_mul (pel_var (i := 2)) (pel_var (i := 1))) pal_nil)))))))), ?_⟩
  intro n S pot hp hn
  have bb : (10 : Int) ^ 29 + 1 < 10 ^ 30 ∧ (10 : Int) ^ 12 < 10 ^ 29 ∧ (10 : Int) ^ 9 < 10 ^ 29 ∧ (360360 : Int) < 10 ^ 29 ∧ (10 : Int) ^ 30 < 10 ^ 200 ∧ (10 : Int) ^ 29 + 10 < 10 ^ 30 := by decide +kernel
  obtain ⟨bb1, bb2, bb3, bb4, bb5, bb6⟩ := bb
  have p12 : lBin gPow (lC (D.int 10)) (lC (D.int 12)) = fun ρ S => .ok (.int (10 ^ 12)) S := funext fun ρ => funext fun S => bin_ok rfl rfl (pow_ii ⟨by decide, by decide, by decide⟩)
  have p9 : lBin gPow (lC (D.int 10)) (lC (D.int 9)) = fun ρ S => .ok (.int (10 ^ 9)) S := funext fun ρ => funext fun S => bin_ok rfl rfl (pow_ii ⟨by decide, by decide, by decide⟩)
  have p29 : lBin gPow (lC (D.int 10)) (lC (D.int 29)) = fun ρ S => .ok (.int (10 ^ 29)) S := funext fun ρ => funext fun S => bin_ok rfl rfl (pow_ii ⟨by decide, by decide, by decide⟩)
  have p30 : lBin gPow (lC (D.int 10)) (lC (D.int 30)) = fun ρ S => .ok (.int (10 ^ 30)) S := funext fun ρ => funext fun S => bin_ok rfl rfl (pow_ii ⟨by decide, by decide, by decide⟩)
  rw [p12, p9, p29, p30]
  -- by
  obtain ⟨v1, S1, e1, v10, v11, hp1⟩ := St n S pot (10 ^ 12) hp (by omega) (by decide) (by omega)
  obtain ⟨y1, S2, hy1, e2, hp2⟩ := So (n + 1) S1 pot [.int 1, .int 2, .int 6, .int 97, .int 360360, .int (10 ^ 29 + 1), .int (1 + v1)] hp1 (by omega) (by simp) (by simp)
  obtain ⟨b, rfl, b0, b1⟩ : ∃ b : Int, y1 = .int b ∧ 1 ≤ b ∧ b < 10 ^ 30 := by
    simp only [List.mem_cons, List.not_mem_nil, or_false] at hy1
    rcases hy1 with rfl | rfl | rfl | rfl | rfl | rfl | rfl <;> exact ⟨_, rfl, by omega, by omega⟩
  -- around
  obtain ⟨v2, S3, e3, v20, v21, hp3⟩ := St (n + 1 + 1) S2 pot (10 ^ 9) hp2 (by omega) (by decide) (by omega)
  obtain ⟨y2, S4, hy2, e4, hp4⟩ := So (n + 1 + 1 + 1) S3 pot [.int 1, .int 2, .int 3, .int 4, .int 12, .int (10 ^ 30 - 1), .int (1 + v2)] hp3 (by omega) (by simp) (by simp)
  obtain ⟨r, rfl, r0, r1⟩ : ∃ b : Int, y2 = .int b ∧ 1 ≤ b ∧ b < 10 ^ 30 := by
    simp only [List.mem_cons, List.not_mem_nil, or_false] at hy2
    rcases hy2 with rfl | rfl | rfl | rfl | rfl | rfl | rfl <;> exact ⟨_, rfl, by omega, by omega⟩
  -- few
  obtain ⟨v3, S5, e5, v30, v31, hp5⟩ := St (n + 1 + 1 + 1 + 1) S4 pot (r + 1) hp4 (by omega) (by omega) (by omega)
  obtain ⟨v4, S6, e6, v40, v41, hp6⟩ := St (n + 1 + 1 + 1 + 1 + 1) S5 pot (r + 1) hp5 (by omega) (by omega) (by omega)
  obtain ⟨y3, S7, hy3, e7, hp7⟩ := So (n + 1 + 1 + 1 + 1 + 1 + 1) S6 pot [.int 0, .int 1, .int r, .int (r - 1), .int (r / 2), .int v3, .int v4] hp6 (by omega) (by simp) (by simp)
  obtain ⟨f, rfl, f0⟩ : ∃ b : Int, y3 = .int b ∧ 0 ≤ b := by
    simp only [List.mem_cons, List.not_mem_nil, or_false] at hy3
    rcases hy3 with rfl | rfl | rfl | rfl | rfl | rfl | rfl <;> exact ⟨_, rfl, by omega⟩
  have smr : Sm r := Sm.of (by omega) r1 (by decide +kernel)
  have smb : Sm b := Sm.of (by omega) b1 (by decide +kernel)
  have sm2 : Sm 2 := ⟨by decide +kernel, by decide +kernel⟩
  have q0 : 0 ≤ (if r < f then r else f) := by split <;> omega
  have q1 : (if r < f then r else f) ≤ r := by split <;> omega
  have smq : Sm (if r < f then r else f) := Sm.of q0 (n := 10 ^ 30) (by omega) (by decide +kernel)
  have bm : r * b < 10 ^ 61 := by
    have h1 : r * b ≤ 10 ^ 30 * 10 ^ 30 := Int.le_trans (Int.mul_le_mul_of_nonneg_right (Int.le_of_lt r1) (by omega)) (Int.mul_le_mul_of_nonneg_left (Int.le_of_lt b1) (by decide +kernel))
    have h2 : (10 : Int) ^ 30 * 10 ^ 30 < 10 ^ 61 := by decide +kernel
    omega
  refine ⟨(if r < f then r else f) * b, r * b, S7, ?_, Int.mul_nonneg q0 (by omega), Int.mul_le_mul_of_nonneg_right q1 (by omega), Int.mul_pos (by omega) (by omega), bm, hp7.mono (by omega)⟩
  refine body_rt (seq_nx (set_ok (call_ok (acons_ok rfl (acons_ok (lst_ok (acons_ok rfl (acons_ok rfl (acons_ok rfl (acons_ok rfl (acons_ok rfl (acons_ok (bin_ok rfl rfl add_ii) (acons_ok (bin_ok rfl (call_ok (acons_ok rfl (acons_ok rfl rfl)) rfl e1) add_ii) rfl))))))) (by simp)) rfl)) rfl e2)) ?_)
  refine seq_nx (set_ok (call_ok (acons_ok rfl (acons_ok (lst_ok (acons_ok rfl (acons_ok rfl (acons_ok rfl (acons_ok rfl (acons_ok rfl (acons_ok (bin_ok rfl rfl rfl) (acons_ok (bin_ok rfl (call_ok (acons_ok rfl (acons_ok rfl rfl)) rfl e3) add_ii) rfl))))))) (by simp)) rfl)) rfl e4)) ?_
  refine seq_nx (set_ok (call_ok (acons_ok rfl (acons_ok (lst_ok (acons_ok rfl (acons_ok rfl (acons_ok rfl (acons_ok (bin_ok rfl rfl rfl) (acons_ok (bin_ok rfl rfl (div_ii (by decide) sm2)) (acons_ok (call_ok (acons_ok rfl (acons_ok (bin_ok rfl rfl add_ii) rfl)) rfl e5) (acons_ok (call_ok (acons_ok rfl (acons_ok (bin_ok rfl rfl add_ii) rfl)) rfl e6) rfl))))))) (by simp)) rfl)) rfl e7)) ?_
  exact ret_ok (tup_ok (acons_ok (bin_ok (callb_ok (acons_ok rfl (acons_ok rfl rfl)) rfl) rfl (mul_ii smq smb)) (acons_ok (bin_ok rfl rfl (mul_ii smr smb)) rfl)) (by simp))
end
end K26

namespace K26
open PySem PySem.Spec PyProof.Rows L2 MP
/-! ### plain arithmetic -/
theorem red {a b : Int} (h0 : 0 ≤ a) (h1 : 0 < b) : ∃ g p q : Int, 0 < g ∧ a = p * g ∧ b = q * g ∧ 0 ≤ p ∧ 0 < q ∧ p ≤ a ∧ q ≤ b ∧ Int.gcd q p = 1 ∧ a / (Int.gcd b a : Int) = p ∧ b / (Int.gcd b a : Int) = q ∧ (a = 0 → p = 0 ∧ q = 1) := by
  have gp : 0 < Int.gcd b a := Int.gcd_pos_of_ne_zero_left a (Int.ne_of_gt h1)
  have e1 := Int.ediv_mul_cancel (Int.gcd_dvd_right b a)
  have e2 := Int.ediv_mul_cancel (Int.gcd_dvd_left b a)
  have e3 : Int.gcd (b / (Int.gcd b a : Int)) (a / (Int.gcd b a : Int)) = 1 := Int.gcd_ediv_gcd_ediv_gcd gp
  have p0 : 0 ≤ a / (Int.gcd b a : Int) := Int.ediv_nonneg h0 (by omega)
  have q0 : 0 < b / (Int.gcd b a : Int) := by
    rcases Int.lt_or_le 0 (b / (Int.gcd b a : Int)) with h | h
    · exact h
    · have : b / (Int.gcd b a : Int) * (Int.gcd b a : Int) ≤ 0 := Int.mul_nonpos_of_nonpos_of_nonneg h (by omega)
      omega
  refine ⟨(Int.gcd b a : Int), _, _, by omega, e1.symm, e2.symm, p0, q0, Int.ediv_le_self _ h0, Int.ediv_le_self _ (by omega), e3, rfl, rfl, fun z => ?_⟩
  subst z
  rw [Int.gcd_zero_right]
  have e : ((b.natAbs : Nat) : Int) = b := by omega
  rw [e]
  exact ⟨by simp, Int.ediv_self (Int.ne_of_gt h1)⟩
theorem cross_eq {p q r s : Int} (q0 : 0 < q) (s0 : 0 < s) (h1 : Int.gcd q p = 1) (h2 : Int.gcd s r = 1) (e : p * s = r * q) : p = r ∧ q = s := by
  have d1 : q.natAbs ∣ s.natAbs := by
    have h : q.natAbs ∣ p.natAbs * s.natAbs := by
      rw [← Int.natAbs_mul, e, Int.natAbs_mul]
      exact Nat.dvd_mul_left _ _
    exact Nat.Coprime.dvd_of_dvd_mul_left h1 h
  have d2 : s.natAbs ∣ q.natAbs := by
    have h : s.natAbs ∣ r.natAbs * q.natAbs := by
      rw [← Int.natAbs_mul, ← e, Int.natAbs_mul]
      exact Nat.dvd_mul_left _ _
    exact Nat.Coprime.dvd_of_dvd_mul_left h2 h
  have d3 : q = s := by
    have := Nat.dvd_antisymm d1 d2
    omega
  subst d3
  exact ⟨Int.eq_of_mul_eq_mul_right (Int.ne_of_gt q0) e, rfl⟩
theorem cross_form {p q r s g h : Int} : p * g * (s * h) - r * h * (q * g) = (p * s - r * q) * (g * h) := by
  rw [Int.sub_mul]
  congr 1
  · rw [Int.mul_assoc, Int.mul_assoc, Int.mul_left_comm g s h]
  · rw [Int.mul_assoc, Int.mul_assoc, Int.mul_left_comm h q g, Int.mul_comm h g]
theorem cross_gt {x y : Int} (hy : 0 < y) : 0 < x * y ↔ 0 < x := by
  constructor
  · intro h
    rcases Int.lt_or_le 0 x with z | z
    · exact z
    · have := Int.mul_nonpos_of_nonpos_of_nonneg z (Int.le_of_lt hy)
      omega
  · exact fun h => Int.mul_pos h hy
theorem cross_zero {x y : Int} (hy : 0 < y) : x * y = 0 ↔ x = 0 := by
  rw [Int.mul_eq_zero]
  constructor
  · rintro (h | h)
    · exact h
    · omega
  · exact Or.inl
/-! ### shares asked -/
theorem shF_ok {C : Addr} {S : Sto} {a b p q : Int} (h0 : 0 ≤ a) (h1 : a ≤ b) (h2 : 0 < b) (h3 : b < 10 ^ 61) (e1 : a / (Int.gcd b a : Int) = p) (e2 : b / (Int.gcd b a : Int) = q) : shF C [.int a, .int b] S = .ok (shD C p q) S := by
  have b1 : (10 : Int) ^ 61 < 10 ^ 200 := by decide +kernel
  show (if 0 ≤ a ∧ 0 < b ∧ a < 10 ^ 200 ∧ b < 10 ^ 200 then R.ok (shD C (a / Int.gcd b a) (b / Int.gcd b a)) S else .bad) = _
  rw [if_pos ⟨h0, h2, by omega, by omega⟩, e1, e2]
theorem shOf_sh {C : Addr} {a b : Int} : shOf C (shD C a b) = some (a, b) := by
  show (if C = C ∧ ("part" : Str) = "part" ∧ ("whole" : Str) = "whole" then some (a, b) else none) = _
  rw [if_pos ⟨rfl, rfl, rfl⟩]
theorem own_tup {C : Addr} {S : Sto} {a b : Int} {xs : List D} : gOwnEq C (tsSh C) (gpEq C) S (shD C a b) (.tup xs) = some (.bl false) := by
  show (if C = C then (if Tg.tup ∈ tsSh C then gpEq C S (shD C a b) (.tup xs) else none) else none) = _
  rw [if_pos rfl, if_pos (by simp [tsSh])]
  unfold gpEq
  rw [shOf_sh]
  rfl
theorem own_str {C : Addr} {S : Sto} {a b : Int} {x : Str} : gOwnEq C (tsSh C) (gpEq C) S (shD C a b) (.str x) = some (.bl false) := by
  show (if C = C then (if Tg.str ∈ tsSh C then gpEq C S (shD C a b) (.str x) else none) else none) = _
  rw [if_pos rfl, if_pos (by simp [tsSh])]
  unfold gpEq
  rw [shOf_sh]
  rfl
theorem own_sh {C : Addr} {S : Sto} {a b c d : Int} : gOwnEq C (tsSh C) (gpEq C) S (shD C a b) (shD C c d) = some (.bl (decide (a = c ∧ b = d))) := by
  show (if C = C then (if Tg.obj C ∈ tsSh C then gpEq C S (shD C a b) (shD C c d) else none) else none) = _
  rw [if_pos rfl, if_pos (by simp [tsSh])]
  unfold gpEq
  rw [shOf_sh, shOf_sh]
theorem own_ne {C : Addr} {S : Sto} {a b c d : Int} : gOwnNe C (tsSh C) (gpEq C) S (shD C a b) (shD C c d) = some (.bl (!decide (a = c ∧ b = d))) := by
  unfold gOwnNe; rw [own_sh]; rfl
theorem str_sh {C : Addr} {S : Sto} {a b : Int} (h0 : 0 ≤ a) (h1 : 0 ≤ b) (h2 : a < 10 ^ 200) (h3 : b < 10 ^ 200) : gStrO C (gpStr C) S [shD C a b] = some (.str (Str.ofString (toString a) ++ "/" ++ Str.ofString (toString b))) := by
  show ((if C = C then gpStr C S (shD C a b) else none).bind strD) = _
  rw [if_pos rfl]
  unfold gpStr
  rw [shOf_sh]
  show ((if 0 ≤ a ∧ 0 ≤ b ∧ a < 10 ^ 200 ∧ b < 10 ^ 200 then some (D.str (Str.ofString (toString a) ++ "/" ++ Str.ofString (toString b))) else none).bind strD) = _
  rw [if_pos ⟨h0, h1, h2, h3⟩]
  rfl
theorem repr_sh {C : Addr} {S : Sto} {a b : Int} (h0 : 0 ≤ a) (h1 : 0 ≤ b) (h2 : a < 10 ^ 200) (h3 : b < 10 ^ 200) : gStrO C (gpRepr C) S [shD C a b] = some (.str ("Share(" ++ Str.ofString (toString a) ++ ", " ++ Str.ofString (toString b) ++ ")")) := by
  show ((if C = C then gpRepr C S (shD C a b) else none).bind strD) = _
  rw [if_pos rfl]
  unfold gpRepr
  rw [shOf_sh]
  show ((if 0 ≤ a ∧ 0 ≤ b ∧ a < 10 ^ 200 ∧ b < 10 ^ 200 then some (D.str ("Share(" ++ Str.ofString (toString a) ++ ", " ++ Str.ofString (toString b) ++ ")")) else none).bind strD) = _
  rw [if_pos ⟨h0, h1, h2, h3⟩]
  rfl
theorem str_i {S : Sto} {i : Int} (h : Sm i) : gStr S [.int i] = some (.str (Str.ofString (toString i))) := by
  have := h.lg
  show (if i.natAbs.log2 < 1920 then some (D.str (toString i)) else none) = _
  rw [if_pos (by omega)]
theorem isi_ok {tab : Tab} {l : LE} {ρ : Ev} {S S1 : Sto} {d e : D} (h : l ρ S = .ok d S1) (h2 : gIsi tab S1 d = some e) : lIsi tab l ρ S = .ok e S1 := by
  unfold lIsi; rw [h, bind_ok, h2]; rfl
theorem recv_sh {C : Addr} {S : Sto} {x y : Int} : recv C "more_than" S (shD C x y) = true := by
  show (decide (C = C) && (([(("part" : Str), D.int x), (("whole" : Str), D.int y)] : List (Str × D)).lookup ("more_than" : Str)).isNone) = true
  rw [decide_eq_true rfl]
  rfl
end K26

namespace K26
open PySem PySem.Spec PyProof.Rows L2 MP
section
variable {P : Program} {w : World} {K : PySem.W.Frag} {mg : Str → Option Value} {base : Heap}
theorem eqm {N : List Str} {qual : Str} {sc : Scope} {f : Addr} {cdv : Value} {A : Around} {outer : List Env} {s : Shared} {H : Hp} {E : XK} (T : T26 K mg) (hr : Room 3 (cxL P w K mg base N qual sc f cdv A outer s H E).A) : EqM (cxL P w K mg base N qual sc f cdv A outer s H E) T.C_Share (tsSh T.C_Share) (gpEq T.C_Share) :=
  ⟨⟨1, _, _, _, ok_eq T, hr.mono (by decide), T.b_Share___eq__, rfl, T.a_Share___eq__, T.i_Share___eq__⟩, fun t ht => by
    simp only [tsSh, List.mem_cons, List.not_mem_nil, or_false] at ht
    rcases ht with rfl | rfl | rfl
    · exact ⟨T.nf_Share_tuple, fun _ z => nomatch z⟩
    · exact ⟨T.nf_Share_str, fun _ z => nomatch z⟩
    · exact ⟨by unfold PySem.W.notFirst; simp [tyG], fun _ z => by cases z; exact T.ok_Share⟩⟩
theorem onestr {N : List Str} {qual : Str} {sc : Scope} {f : Addr} {cdv : Value} {A : Around} {outer : List Env} {s : Shared} {H : Hp} {E : XK} (T : T26 K mg) (hr : Room 4 (cxL P w K mg base N qual sc f cdv A outer s H E).A) : OneM (cxL P w K mg base N qual sc f cdv A outer s H E) T.C_Share "__str__" (gpStr T.C_Share) :=
  ⟨⟨1, _, _, _, ok_str T, hr.mono (by decide), T.b_Share___str__, rfl, T.a_Share___str__, T.i_Share___str__⟩⟩
theorem onerepr {N : List Str} {qual : Str} {sc : Scope} {f : Addr} {cdv : Value} {A : Around} {outer : List Env} {s : Shared} {H : Hp} {E : XK} (T : T26 K mg) (hr : Room 4 (cxL P w K mg base N qual sc f cdv A outer s H E).A) : OneM (cxL P w K mg base N qual sc f cdv A outer s H E) T.C_Share "__repr__" (gpRepr T.C_Share) :=
  ⟨⟨1, _, _, _, ok_repr T, hr.mono (by decide), T.b_Share___repr__, rfl, T.a_Share___repr__, T.i_Share___repr__⟩⟩
theorem ok_right (T : T26 K mg) : ∃ g, FnL P w K mg base 5 T.f__law_right T.fd__law_right ["_law_few", "_law_around"] g ∧ SRight g := by
  obtain ⟨gi, Fn_Share___init__, le_Share, lekw_Share⟩ := ok_init (P := P) (w := w) (base := base) T
  obtain ⟨gc, Fn__law_common, Sc⟩ := ok_lcommon (P := P) (w := w) (base := base) T
  refine ⟨_, Fun.okL T.F__law_right sc__law_right fun cdv A outer s H E hr => by
    have EQ := eqm (P := P) (w := w) (base := base) (N := N__law_right) (qual := "_law_right") (sc := defScope s__law_right) (f := T.f__law_right) (cdv := cdv) (A := A) (outer := outer) (s := s) (H := H) (E := E) T (hr.mono (by decide))
    have ST := onestr (P := P) (w := w) (base := base) (N := N__law_right) (qual := "_law_right") (sc := defScope s__law_right) (f := T.f__law_right) (cdv := cdv) (A := A) (outer := outer) (s := s) (H := H) (E := E) T (hr.mono (by decide))
    have RP := onerepr (P := P) (w := w) (base := base) (N := N__law_right) (qual := "_law_right") (sc := defScope s__law_right) (f := T.f__law_right) (cdv := cdv) (A := A) (outer := outer) (s := s) (H := H) (E := E) T (hr.mono (by decide))
    exact
(pssl_cons (psl_set (i := 2) sc__law_right.nd (pel_make (n := 2) T.mk_Share Fn_Share___init__ le_Share (hr.mono (by decide)) rfl T.mg_Share T.b_Share___init__ dfl_nil (pal_cons (pel_var (i := 0)) (pal_cons (pel_var (i := 1)) pal_nil))))
  (pssl_cons (psl_if (PWL.pt (pwl_or (ptl_cmp (opl_ne hr.units) (pel_op opl_mul (pel_fld T.cl_Share T.na_Share_part (pel_var (i := 2))) (pel_var (i := 1))) (pel_op opl_mul (pel_var (i := 0)) (pel_fld T.cl_Share T.na_Share_whole (pel_var (i := 2))))) (pwl_or (ptl_cmp (opl_ne hr.units) (pel_call Fn__law_common (hr.mono (by decide)) rfl T.mg__law_common T.F__law_common.kp T.b__law_common dfl_nil (pal_cons (pel_fld T.cl_Share T.na_Share_whole (pel_var (i := 2))) (pal_cons (pel_fld T.cl_Share T.na_Share_part (pel_var (i := 2))) pal_nil))) pel_int) (pwl_or1 (ptl_cmp opl_ltI (pel_fld T.cl_Share T.na_Share_whole (pel_var (i := 2))) pel_int))))) (pssl_one (psl_ret pel_bl)) pssl_nil)
  (pssl_cons (psl_if (PWL.pt (pwl_and (ptl_cmp (opl_eq hr.units) (pel_var (i := 0)) pel_int) (pwl_and1 (ptl_cmp (opl_ne hr.units) (pel_tup (pal_cons (pel_fld T.cl_Share T.na_Share_part (pel_var (i := 2))) (pal_cons (pel_fld T.cl_Share T.na_Share_whole (pel_var (i := 2))) pal_nil))) (pel_tup (pal_cons pel_int (pal_cons pel_int pal_nil))))))) (pssl_one (psl_ret pel_bl)) pssl_nil)
  (pssl_cons (psl_if (PWL.pt (pwl_or (ptl_truth (pel_isi rfl T.n_isinstance (pel_fld T.cl_Share T.na_Share_part (pel_var (i := 2))) (pe_bltn rfl T.n_bool (v := .ty "bool") (u := .type "bool") (by decide +kernel) rfl) (.ty _) isi_bool)) (pwl_or1 (ptl_truth (pel_isi rfl T.n_isinstance (pel_fld T.cl_Share T.na_Share_whole (pel_var (i := 2))) (pe_bltn rfl T.n_bool (v := .ty "bool") (u := .type "bool") (by decide +kernel) rfl) (.ty _) isi_bool))))) (pssl_one (psl_ret pel_bl)) pssl_nil)
  (pssl_cons (psl_if (PWL.pt (pwl_or (ptl_cmp (opl_ne hr.units) (pel_callTy (cl_strO ST) rfl T.n_str (by decide +kernel) (pal_cons (pel_var (i := 2)) pal_nil)) (pel_op opl_add (pel_op opl_add (pel_callTy (cl_str) rfl T.n_str (by decide +kernel) (pal_cons (pel_fld T.cl_Share T.na_Share_part (pel_var (i := 2))) pal_nil)) pel_str) (pel_callTy (cl_str) rfl T.n_str (by decide +kernel) (pal_cons (pel_fld T.cl_Share T.na_Share_whole (pel_var (i := 2))) pal_nil)))) (pwl_or (ptl_cmp (opl_ownEq EQ) (pel_var (i := 2)) (pel_tup (pal_cons (pel_fld T.cl_Share T.na_Share_part (pel_var (i := 2))) (pal_cons (pel_fld T.cl_Share T.na_Share_whole (pel_var (i := 2))) pal_nil)))) (pwl_or1 (ptl_cmp (opl_ownEq EQ) (pel_var (i := 2)) (pel_callTy (cl_strO ST) rfl T.n_str (by decide +kernel) (pal_cons (pel_var (i := 2)) pal_nil))))))) (pssl_one (psl_ret pel_bl)) pssl_nil)
  (pssl_cons (psl_if (ptl_cmp (opl_ne hr.units) (pel_callB (cl_reprO RP) rfl T.n_repr (by decide +kernel) (pal_cons (pel_var (i := 2)) pal_nil)) (pel_op opl_add (pel_op opl_add (pel_op opl_add (pel_op opl_add pel_str (pel_callTy (cl_str) rfl T.n_str (by decide +kernel) (pal_cons (pel_fld T.cl_Share T.na_Share_part (pel_var (i := 2))) pal_nil))) pel_str) (pel_callTy (cl_str) rfl T.n_str (by decide +kernel) (pal_cons (pel_fld T.cl_Share T.na_Share_whole (pel_var (i := 2))) pal_nil))) pel_str)) (pssl_one (psl_ret pel_bl)) pssl_nil)
  (pssl_one (psl_ret (pel_cmp (opl_ownEq EQ) (pel_var (i := 2)) (pel_makeKw0 T.mk_Share Fn_Share___init__ (hr.mono (by decide)) rfl T.mg_Share T.kw_Share dfl_nil lekw_Share (pkl_cons (pel_var (i := 1)) (pkl_cons (pel_var (i := 0)) pkl_nil)))))))))))), ?_⟩
  intro S a b a0 ab b0 b1
  obtain ⟨g, p, q, g0, ea, eb, p0, q0, pa, qb, cop, e1, e2, ez⟩ := red a0 b0
  have bb : (10 : Int) ^ 61 < 10 ^ 200 := by decide +kernel
  have smp : Sm p := Sm.of200 p0 (by omega)
  have smq : Sm q := Sm.of200 (by omega) (by omega)
  have sma : Sm a := Sm.of200 a0 (by omega)
  have smb : Sm b := Sm.of200 (by omega) (by omega)
  have lp := txt_le smp
  have lq := txt_le smq
  have hc : p * b = a * q := by rw [ea, eb, Int.mul_assoc, Int.mul_comm g q]
  have hmk : ∀ ρ S, lCall 2 (shF T.C_Share) [] (aCons (lVar 0) (aCons (lVar 1) aNil)) (some (.int a) :: some (.int b) :: ρ) S = .ok (shD T.C_Share p q) S := fun ρ S => call_ok (acons_ok rfl (acons_ok rfl rfl)) rfl (shF_ok a0 ab b0 b1 e1 e2)
  have fp : lFld T.C_Share "part" (lVar 2) [some (.int a), some (.int b), some (shD T.C_Share p q)] S = .ok (.int p) S := fld_ok rfl sh_part
  have fq : lFld T.C_Share "whole" (lVar 2) [some (.int a), some (.int b), some (shD T.C_Share p q)] S = .ok (.int q) S := fld_ok rfl sh_whole
  have sp : lCallB gStr (aCons (lFld T.C_Share "part" (lVar 2)) aNil) [some (.int a), some (.int b), some (shD T.C_Share p q)] S = .ok _ S := callb_ok (acons_ok fp rfl) (str_i smp)
  have sq : lCallB gStr (aCons (lFld T.C_Share "whole" (lVar 2)) aNil) [some (.int a), some (.int b), some (shD T.C_Share p q)] S = .ok _ S := callb_ok (acons_ok fq rfl) (str_i smq)
  have st : lCallB (gStrO T.C_Share (gpStr T.C_Share)) (aCons (lVar 2) aNil) [some (.int a), some (.int b), some (shD T.C_Share p q)] S = .ok _ S := callb_ok (acons_ok rfl rfl) (str_sh p0 (by omega) (by omega) (by omega))
  have rp : lCallB (gStrO T.C_Share (gpRepr T.C_Share)) (aCons (lVar 2) aNil) [some (.int a), some (.int b), some (shD T.C_Share p q)] S = .ok _ S := callb_ok (acons_ok rfl rfl) (repr_sh p0 (by omega) (by omega) (by omega))
  refine body_rt (seq_nx (set_ok (hmk _ _)) ?_)
  -- lowest terms, the same worth
  refine seq_nx (if_ff (or_ff (tru_b (bin_ok (bin_ok fp rfl (mul_ii smp smb)) (bin_ok rfl fq (mul_ii sma smq)) ne_ii) (by rw [hc, decide_eq_true rfl]; rfl)) (or_ff (tru_b (bin_ok (call_ok (acons_ok fq (acons_ok fp rfl)) rfl (Sc _ _ _ (by omega) p0 (by omega))) rfl ne_ii) (by rw [cop]; rfl)) (tru_b (bin_ok fq rfl rfl) (decide_eq_false (by omega))))) rfl) ?_
  -- nought
  have h2 : MP.tAnd (tTru (lBin gEq (lVar 0) (lC (D.int 0)))) (tTru (lBin gNe (lTup (aCons (lFld T.C_Share "part" (lVar 2)) (aCons (lFld T.C_Share "whole" (lVar 2)) aNil))) (lTup (aCons (lC (D.int 0)) (aCons (lC (D.int 1)) aNil))))) [some (.int a), some (.int b), some (shD T.C_Share p q)] S = .ok false S := by
    by_cases z : a = 0
    · exact and_tt (tru_b (bin_ok rfl rfl eq_ii) (decide_eq_true z)) (tru_b (bin_ok (tup_ok (acons_ok fp (acons_ok fq rfl)) (by simp)) (tup_ok (acons_ok rfl (acons_ok rfl rfl)) (by simp)) ne_t2) (by rw [decide_eq_true (ez z)]; rfl))
    · exact and_ff (tru_b (bin_ok rfl rfl eq_ii) (decide_eq_false z))
  refine seq_nx (if_ff h2 rfl) ?_
  -- no truths
  refine seq_nx (if_ff (or_ff (tru_b (b := false) (isi_ok fp rfl) rfl) (tru_b (b := false) (isi_ok fq rfl) rfl)) rfl) ?_
  -- its text
  refine seq_nx (if_ff (or_ff (tru_b (bin_ok st (bin_ok (bin_ok sp rfl (add_ss (sz (by simp only [len_slash]; omega)))) sq (add_ss (by rw [len_app]; exact sz (by simp only [len_slash]; omega)))) ne_ss) (by rw [decide_eq_true rfl]; rfl)) (or_ff (tru_b (bin_ok rfl (tup_ok (acons_ok fp (acons_ok fq rfl)) (by simp)) own_tup) rfl) (tru_b (bin_ok rfl st own_str) rfl))) rfl) ?_
  refine seq_nx (if_ff (tru_b (bin_ok rp (bin_ok (bin_ok (bin_ok (bin_ok rfl sp (add_ss (sz (by simp only [len_Share]; omega)))) rfl (add_ss (by rw [len_app]; exact sz (by simp only [len_Share, len_comma]; omega)))) sq (add_ss (by rw [len_app, len_app]; exact sz (by simp only [len_Share, len_comma]; omega)))) rfl (add_ss (by rw [len_app, len_app, len_app]; exact sz (by simp only [len_Share, len_comma, len_close]; omega)))) ne_ss) (by rw [decide_eq_true rfl]; rfl)) rfl) ?_
  -- by names
  refine ret_ok (bin_ok rfl ?_ (own_sh.trans (by rw [decide_eq_true ⟨rfl, rfl⟩])))
  show (R.ok [D.int b, D.int a] S).bind (fun es S2 => kwM 2 (shFk T.C_Share) es S2) = _
  rw [bind_ok]
  show (if ([D.int b, D.int a] : List D).length = 2 then shF T.C_Share [.int a, .int b] S else .bad) = _
  rw [if_pos (show ([D.int b, D.int a] : List D).length = 2 from rfl)]
  exact shF_ok a0 ab b0 b1 e1 e2
theorem ok_cmp (T : T26 K mg) : ∃ g, FnL P w K mg base 5 T.f__law_compared_right T.fd__law_compared_right ["_law_mine", "_law_yours"] g ∧ SCmp g := by
  obtain ⟨gi, Fn_Share___init__, le_Share, lekw_Share⟩ := ok_init (P := P) (w := w) (base := base) T
  obtain ⟨gm, Fn_Share_more_than, Smo⟩ := ok_more (P := P) (w := w) (base := base) T
  refine ⟨_, Fun.okL T.F__law_compared_right sc__law_compared_right fun cdv A outer s H E hr => by
    have EQ := eqm (P := P) (w := w) (base := base) (N := N__law_compared_right) (qual := "_law_compared_right") (sc := defScope s__law_compared_right) (f := T.f__law_compared_right) (cdv := cdv) (A := A) (outer := outer) (s := s) (H := H) (E := E) T (hr.mono (by decide))
    exact
(pssl_cons (psl_par (i := 2) (j := 3) rfl sc__law_compared_right.nd (pal_cons (pel_make (n := 2) T.mk_Share Fn_Share___init__ le_Share (hr.mono (by decide)) rfl T.mg_Share T.b_Share___init__ dfl_nil (pal_cons (pel_ix ixl_seq (pel_var (i := 0)) pel_int) (pal_cons (pel_ix ixl_seq (pel_var (i := 0)) pel_int) pal_nil))) (pal_cons (pel_make (n := 2) T.mk_Share Fn_Share___init__ le_Share (hr.mono (by decide)) rfl T.mg_Share T.b_Share___init__ dfl_nil (pal_cons (pel_ix ixl_seq (pel_var (i := 1)) pel_int) (pal_cons (pel_ix ixl_seq (pel_var (i := 1)) pel_int) pal_nil))) pal_nil)))
  (pssl_cons (psl_set (i := 4) sc__law_compared_right.nd (pel_op opl_sub (pel_op opl_mul (pel_ix ixl_seq (pel_var (i := 0)) pel_int) (pel_ix ixl_seq (pel_var (i := 1)) pel_int)) (pel_op opl_mul (pel_ix ixl_seq (pel_var (i := 1)) pel_int) (pel_ix ixl_seq (pel_var (i := 0)) pel_int))))
  (pssl_cons (psl_if (PWL.pt (pwl_or (ptl_cmp (opl_ne hr.units) (pel_callB (cl_repr) rfl T.n_repr (by decide +kernel) (pal_cons (pel_meth T.cl_Share T.mt_Share_more_than Fn_Share_more_than (hr.mono (by decide)) T.b_Share_more_than dfl_nil (pel_var (i := 2)) (pal_cons (pel_var (i := 3)) pal_nil)) pal_nil)) (pel_callB (cl_repr) rfl T.n_repr (by decide +kernel) (pal_cons (pel_cmp opl_gtI (pel_var (i := 4)) pel_int) pal_nil))) (pwl_or1 (ptl_cmp (opl_ne hr.units) (pel_callB (cl_repr) rfl T.n_repr (by decide +kernel) (pal_cons (pel_cmp (opl_ownEq EQ) (pel_var (i := 2)) (pel_var (i := 3))) pal_nil)) (pel_callB (cl_repr) rfl T.n_repr (by decide +kernel) (pal_cons (pel_cmp (opl_eq hr.units) (pel_var (i := 4)) pel_int) pal_nil)))))) (pssl_one (psl_ret pel_bl)) pssl_nil)
  (pssl_one (psl_ret (pel_and (pel_cmp (opl_eq hr.units) (pel_callB (cl_repr) rfl T.n_repr (by decide +kernel) (pal_cons (pel_meth T.cl_Share T.mt_Share_more_than Fn_Share_more_than (hr.mono (by decide)) T.b_Share_more_than dfl_nil (pel_var (i := 2)) (pal_cons (pel_var (i := 3)) pal_nil)) pal_nil)) (pel_callB (cl_repr) rfl T.n_repr (by decide +kernel) (pal_cons (pel_cmp opl_gtI (pel_var (i := 4)) pel_int) pal_nil))) (pel_one (pel_cmp (opl_eq hr.units) (pel_cmp (opl_ownNe EQ T.ne_Share T.ok_Share.hm) (pel_var (i := 2)) (pel_var (i := 3))) (pel_cmp (opl_ne hr.units) (pel_var (i := 4)) pel_int))))))))), ?_⟩
  intro S a b c d a0 ab b0 b1 c0 cd d0 d1
  obtain ⟨g, p, q, g0, ea, eb, p0, q0, pa, qb, cop, e1, e2, ez⟩ := red a0 b0
  obtain ⟨h, r, s, h0, ec, ed, r0, s0, rc, sd, cop2, e3, e4, ez2⟩ := red c0 d0
  have bb : (10 : Int) ^ 61 < 10 ^ 200 := by decide +kernel
  have sma : Sm a := Sm.of200 a0 (by omega)
  have smb : Sm b := Sm.of200 (by omega) (by omega)
  have smc : Sm c := Sm.of200 c0 (by omega)
  have smd : Sm d := Sm.of200 (by omega) (by omega)
  have gh : 0 < g * h := Int.mul_pos g0 h0
  have hx : a * d - c * b = (p * s - r * q) * (g * h) := by rw [ea, ed, ec, eb]; exact cross_form
  have hgt : decide (r * q < p * s) = decide (0 < a * d - c * b) := by
    rw [hx]
    have := cross_gt (x := p * s - r * q) gh
    exact decide_eq_decide.mpr ⟨fun z => this.mpr (by omega), fun z => by have := this.mp z; omega⟩
  have heq : decide (p = r ∧ q = s) = decide (a * d - c * b = 0) := by
    rw [hx]
    have := cross_zero (x := p * s - r * q) gh
    exact decide_eq_decide.mpr ⟨fun z => this.mpr (by rw [z.1, z.2]; omega), fun z => cross_eq q0 s0 cop cop2 (by have := this.mp z; omega)⟩
  have ixm : ∀ (x y : Int) (ρ : Ev) (S : Sto) (l : LE), l ρ S = .ok (.tup [.int x, .int y]) S → lBin gIx l (lC (.int 0)) ρ S = .ok (.int x) S ∧ lBin gIx l (lC (.int 1)) ρ S = .ok (.int y) S := fun x y ρ S l hl => ⟨bin_ok hl rfl rfl, bin_ok hl rfl rfl⟩
  refine body_rt (seq_nx (par_ok (acons_ok (call_ok (acons_ok (ixm a b _ _ _ rfl).1 (acons_ok (ixm a b _ _ _ rfl).2 rfl)) rfl (shF_ok a0 ab b0 b1 e1 e2)) (acons_ok (call_ok (acons_ok (ixm c d _ _ _ rfl).1 (acons_ok (ixm c d _ _ _ rfl).2 rfl)) rfl (shF_ok c0 cd d0 d1 e3 e4)) rfl))) ?_)
  refine seq_nx (set_ok (bin_ok (bin_ok (ixm a b _ _ _ rfl).1 (ixm c d _ _ _ rfl).2 (mul_ii sma smd)) (bin_ok (ixm c d _ _ _ rfl).1 (ixm a b _ _ _ rfl).2 (mul_ii smc smb)) rfl)) ?_
  have hm := Smo S p q r s p0 (by omega) r0 (by omega) (by omega) (by omega) (by omega) (by omega)
  refine seq_nx (if_ff (or_ff (tru_b (bin_ok (callb_ok (acons_ok (meth_ok rfl recv_sh (acons_ok rfl rfl) rfl hm) rfl) rfl) (callb_ok (acons_ok (bin_ok rfl rfl rfl) rfl) rfl) ne_ss) (by rw [hgt, decide_eq_true rfl]; rfl))
    (tru_b (bin_ok (callb_ok (acons_ok (bin_ok rfl rfl own_sh) rfl) rfl) (callb_ok (acons_ok (bin_ok rfl rfl eq_ii) rfl) rfl) ne_ss) (by rw [heq, decide_eq_true rfl]; rfl))) rfl) ?_
  exact ret_ok (andv_tt (d := .bl true) (bin_ok (callb_ok (acons_ok (meth_ok rfl recv_sh (acons_ok rfl rfl) rfl hm) rfl) rfl) (callb_ok (acons_ok (bin_ok rfl rfl rfl) rfl) rfl) (eq_ss.trans (by rw [hgt, decide_eq_true rfl]))) rfl (bin_ok (bin_ok rfl rfl own_ne) (bin_ok rfl rfl ne_ii) (eq_bb.trans (by rw [heq, decide_eq_true rfl]))))
theorem ok_law (T : T26 K mg) : ∃ g, FnL P w K mg base 6 T.f_law T.fd_law ["_law_script"] g ∧ SLaw g := by
  obtain ⟨gb, Fn__law_begin, Sb⟩ := ok_begin (P := P) (w := w) (base := base) T
  obtain ⟨g2, Fn__law_two, Stw⟩ := ok_two (P := P) (w := w) (base := base) T
  obtain ⟨gr, Fn__law_right, Sr⟩ := ok_right (P := P) (w := w) (base := base) T
  obtain ⟨gc, Fn__law_compared_right, Sc⟩ := ok_cmp (P := P) (w := w) (base := base) T
  refine ⟨_, Fun.okL T.F_law sc_law fun cdv A outer s H E hr =>
(pssl_cons (psl_set (i := 1) sc_law.nd (pel_call Fn__law_begin (hr.mono (by decide)) rfl T.mg__law_begin T.F__law_begin.kp T.b__law_begin dfl_nil (pal_cons (pel_var (i := 0)) pal_nil)))
  (pssl_cons (psl_for (passes_of rfl) rfl (pil_range1 rfl T.n_range (pal_cons (pel_op opl_add pel_int (pel_callB (cl_min2 rfl) rfl T.n_min (by decide +kernel) (pal_cons pel_int (pal_cons (pel_callB (cl_len) rfl T.n_len (by decide +kernel) (pal_cons (pel_var (i := 0)) pal_nil)) pal_nil)))) pal_nil)) (pgl_name (i := 2) sc_law.nd) (pssl_cons (psl_setLc (i := 3) (own := [("_law_k", 4)]) sc_law.nd rfl (sw_true rfl rfl rfl (by decide +kernel)) rfl (pil_range1 rfl T.n_range (pal_cons pel_int pal_nil)) (blkOk_by (N := N_law) (sc := defScope s_law) (by decide +kernel)) (.inl rfl) (fun _ _ _ _ _ => (pgl_name (i := 4) sc_law.nd)) (fun _ _ _ _ _ => ptsl_nil) (fun _ _ _ _ _ => (pel_call Fn__law_two (hr.mono (by decide)) rfl T.mg__law_two T.F__law_two.kp T.b__law_two dfl_nil (pal_cons (pel_var (i := 1)) pal_nil))))
  (pssl_cons (psl_if (ptl_not (ptl_truth (pel_callB (cl_all rfl) rfl T.n_all (by decide +kernel) (pal_cons (pel_lc (own := [("_law_few", 5), ("_law_around", 6)]) rfl sc_law.nd (pil_val (pel_var (i := 3))) (blkOk_by (N := N_law) (sc := defScope s_law) (by decide +kernel)) (fun _ _ _ _ _ => (pgl_tup (n := 2) rfl (pgsl_cons (pgl_name (i := 5) sc_law.nd) (pgsl_cons (pgl_name (i := 6) sc_law.nd) pgsl_nil)))) (fun _ _ _ _ _ => ptsl_nil) (fun _ _ _ _ _ => (pel_call Fn__law_right (hr.mono (by decide)) rfl T.mg__law_right T.F__law_right.kp T.b__law_right dfl_nil (pal_cons (pel_var (i := 5)) (pal_cons (pel_var (i := 6)) pal_nil))))) pal_nil)))) (pssl_one (psl_ret pel_bl)) pssl_nil)
  (pssl_one (psl_for (passes_of rfl) rfl (pil_val (pel_var (i := 3))) (pgl_name (i := 7) sc_law.nd) (pssl_one (psl_if (ptl_not (ptl_truth (pel_callB (cl_all rfl) rfl T.n_all (by decide +kernel) (pal_cons (pel_lc (own := [("_law_yours", 8)]) rfl sc_law.nd (pil_val (pel_var (i := 3))) (blkOk_by (N := N_law) (sc := defScope s_law) (by decide +kernel)) (fun _ _ _ _ _ => (pgl_name (i := 8) sc_law.nd)) (fun _ _ _ _ _ => ptsl_nil) (fun _ _ _ _ _ => (pel_call Fn__law_compared_right (hr.mono (by decide)) rfl T.mg__law_compared_right T.F__law_compared_right.kp T.b__law_compared_right dfl_nil (pal_cons (pel_var (i := 7)) (pal_cons (pel_var (i := 8)) pal_nil))))) pal_nil)))) (pssl_one (psl_ret pel_bl)) pssl_nil)))))))
  (pssl_one (psl_ret pel_bl)))), ?_⟩
  intro ns hn
  obtain ⟨pot, S1, e1, hp1⟩ := Sb [] ns hn
  have b20 : (1000000 : Int) < 10 ^ 29 := by decide +kernel
  have hmin : 0 ≤ (if ((ns.map D.int).length : Int) < 20 then ((ns.map D.int).length : Int) else 20) ∧ (if ((ns.map D.int).length : Int) < 20 then ((ns.map D.int).length : Int) else 20) ≤ 20 := by split <;> omega
  refine shell (ρ1 := [some (.lst (ns.map D.int)), some pot, none, none, none, none, none, none, none]) (it := ⟨(List.range (4 + (if ((ns.map D.int).length : Int) < 20 then ((ns.map D.int).length : Int) else 20)).toNat).map fun (i : Nat) => D.int (i : Int), fun _ => True⟩) (S1 := S1)
    (I := fun k S => ∃ m : Int, Pot m S pot ∧ m ≤ 30 * k ∧ k ≤ 100) (set_ok (call_ok (acons_ok rfl rfl) rfl e1)) ?_ (fun _ => trivial) ⟨0, hp1, by omega, by omega⟩ ?_ fun S => ret_ok rfl
  · have h : aCons (lBin gAdd (lC (.int 4)) (lCallB gMin2 (aCons (lC (.int 20)) (aCons (lCallB gLen (aCons (lVar 0) aNil)) aNil)))) aNil [some (.lst (ns.map D.int)), some pot, none, none, none, none, none, none, none] S1 = .ok [.int (4 + (if ((ns.map D.int).length : Int) < 20 then ((ns.map D.int).length : Int) else 20))] S1 :=
      acons_ok (bin_ok rfl (callb_ok (acons_ok rfl (acons_ok (callb_ok (acons_ok rfl rfl) rfl) rfl)) rfl) add_ii) rfl
    unfold lRange1
    rw [h, bind_ok]
    show (if -(2 ^ 62) ≤ _ ∧ _ < _ then _ else _) = _
    rw [if_pos ⟨by omega, by omega⟩]
  · intro d hd k S ⟨m, hp, hm, hk⟩ hlt
    simp only [List.length_map, List.length_range] at hlt
    obtain ⟨a1, b1, S2, f1, p1, q1, r1, s1, hp2⟩ := Stw m S pot hp (by omega)
    obtain ⟨a2, b2, S3, f2, p2, q2, r2, s2, hp3⟩ := Stw (m + 10) S2 pot hp2 (by omega)
    obtain ⟨a3, b3, S4, f3, p3, q3, r3, s3, hp4⟩ := Stw (m + 10 + 10) S3 pot hp3 (by omega)
    obtain ⟨xs, hxs⟩ : ∃ xs : List D, xs = [.tup [.int a1, .int b1], .tup [.int a2, .int b2], .tup [.int a3, .int b3]] := ⟨_, rfl⟩
    have hx : ∀ d ∈ xs, ∃ a b : Int, d = .tup [.int a, .int b] ∧ 0 ≤ a ∧ a ≤ b ∧ 0 < b ∧ b < 10 ^ 61 := by
      intro d hd
      rw [hxs] at hd
      simp only [List.mem_cons, List.not_mem_nil, or_false] at hd
      rcases hd with rfl | rfl | rfl
      · exact ⟨_, _, rfl, p1, q1, r1, s1⟩
      · exact ⟨_, _, rfl, p2, q2, r2, s2⟩
      · exact ⟨_, _, rfl, p3, q3, r3, s3⟩
    have hl : xs.length ≤ 1000 := by rw [hxs]; simp
    have hr3 : ∀ ρ S, lRange1 (aCons (lC (D.int 3)) aNil) ρ S = .ok ⟨[.int 0, .int 1, .int 2], fun _ => True⟩ S := fun ρ S => by
      have h : aCons (lC (D.int 3)) aNil ρ S = .ok [.int 3] S := acons_ok rfl rfl
      unfold lRange1
      rw [h, bind_ok]
      show (if -(2 ^ 62) ≤ (3 : Int) ∧ (3 : Int) < 2 ^ 62 then _ else _) = _
      rw [if_pos ⟨by omega, by omega⟩]
      rfl
    have hc : lComp (lRange1 (aCons (lC (D.int 3)) aNil)) [4] (gtName 4) tYesL (lCall 1 g2 [] (aCons (lVar 1) aNil)) [some (.lst (ns.map D.int)), some pot, some d, none, none, none, none, none, none] S = .ok (.lst xs) S4 := by
      rw [hxs]
      exact comp_ok (hr3 _ _) (by simp) (comp_go trivial rfl (call_ok (acons_ok rfl rfl) rfl f1) (comp_go trivial rfl (call_ok (acons_ok rfl rfl) rfl f2) (comp_go trivial rfl (call_ok (acons_ok rfl rfl) rfl f3) (comp_end trivial))))
    refine ⟨_, [some (.lst (ns.map D.int)), some pot, some d, some (.lst xs), none, none, none, none, none], S4, rfl, ?_, rfl, m + 10 + 10 + 10, hp4, by omega, by omega⟩
    refine seq_nx (set_ok hc) (seq_nx (if_ff (not_ok (tru_b (b' := true) (callb_ok (acons_ok (comp_ok (iter_ok rfl rfl) hl (comp_all (f := fun _ => .bl true) trivial xs fun d hd => ?_)) rfl) (all_true xs)) rfl)) rfl) (for_ok (iter_ok rfl rfl) (for_const trivial xs fun d hd => ?_)))
    · obtain ⟨a, b, rfl, h0, h1, h2, h3⟩ := hx d hd
      exact ⟨_, rfl, call_ok (acons_ok rfl (acons_ok rfl rfl)) rfl (Sr _ _ _ h0 h1 h2 h3)⟩
    · obtain ⟨a, b, rfl, h0, h1, h2, h3⟩ := hx d hd
      refine ⟨_, _, rfl, if_ff (not_ok (tru_b (b' := true) (callb_ok (acons_ok (comp_ok (iter_ok rfl rfl) hl (comp_all (f := fun _ => .bl true) trivial xs fun d hd => ?_)) rfl) (all_true xs)) rfl)) rfl, rfl⟩
      obtain ⟨c, e, rfl, g0, g1, g2, g3⟩ := hx d hd
      exact ⟨_, rfl, call_ok (acons_ok rfl (acons_ok rfl rfl)) rfl (Sc _ _ _ _ _ h0 h1 h2 h3 g0 g1 g2 g3)⟩
end
end K26

namespace K26
open PySem PySem.Spec PyProof.Rows L2 MP
def spLaw (K : PySem.W.Frag) : Sp := fun vs H Q _ => ∃ (a : Addr) (ns : List Int), vs = [.ref a] ∧ SqL K H a (ns.map V.int) ∧ ns.length ≤ 63 ∧ ∀ H', Q (.bl true) H'
theorem sr_nil {K : PySem.W.Frag} {H : Hp} : SR K [] H [] := ⟨List.nodup_nil, rfl, fun i a o h => by simp at h⟩
theorem vr_script {K : PySem.W.Frag} {H : Hp} {a : Addr} {ns : List Int} (h : SqL K H a (ns.map V.int)) : VR K [] H (.ref a) (.lst (ns.map D.int)) := by
  rcases h with h | ⟨o, its, n, hk, h1, h2, h3, h4, h5⟩
  · exact .lst (by simp) h VRs.of_ints
  · exact .lstK hk h1 h2 h3 h4 h5 VRs.of_ints
section
variable {P : Program} {w : World} {K : PySem.W.Frag} {mg : Str → Option Value} {base : Heap}
theorem law_fn (T : T26 K mg) : FnOk P w K mg base (L2.CX P w) 6 T.f_law T.fd_law ["_law_script"] (spLaw K) := by
  obtain ⟨g, Fn, Sl⟩ := ok_law (P := P) (w := w) (base := base) T
  refine FnOk.imp Fn fun vs H Q E ⟨a, ns, e, hS, hl, k⟩ => ?_
  subst e
  obtain ⟨S', q⟩ := Sl ns hl
  have key : spL K g 1 [.ref a] H Q E := by
    refine ⟨rfl, [], [], [.lst (ns.map D.int)], sr_nil, .cons (vr_script hS) .nil, ?_, ?_, ?_⟩
    · rw [q]; intro z; cases z
    · intro d S2 q2 v H' z
      rw [q] at q2
      cases q2
      obtain ⟨m', e, x, w⟩ := z
      cases w
      exact k H'
    · intro C fs S2 q2
      rw [q] at q2
      cases q2
  exact key
theorem all26 {l : PySem.W.OpenLaw} {w : World} {K : PySem.W.Frag} {mg : Str → Option Value} {fa : Addr} (hfa : mg "law" = some (.ref fa)) (T : T26 K mg) :
    ∃ fd : FuncData, (∀ (s : Shared) (u : Value), BindsTo s fd ⟨[u], []⟩ [("_law_script", u)]) ∧ ∀ base : Heap, K.In base → base.Ns mainGlobals mg → FnOk l.prog w K mg base (L2.CX l.prog w) 6 fa fd ["_law_script"] (spLaw K) := by
  have e := hfa.symm.trans T.mg_law
  cases e
  refine ⟨T.fd_law, fun s u => ?_, fun base _ _ => law_fn T⟩
  obtain ⟨oc, od, kV, doc, pm, an, cdv, ct, osl, e, lk, hcd⟩ := T.F_law.ex
  rw [e]
  exact .of_eq rfl
end
theorem walk {l : PySem.W.OpenLaw} {q : Program} {loose : List Str} {XP : (Str → Option Value) → Heap → Prop} {YP : World → Heap → Prop} {d : DefRec} {K : Params → PySem.W.Frag} (hn : l.most = some 63) (hdf : d.params.defaults = [])
    (hY : ∀ (w : World) (h : Heap), YP w h → (K w.params).In h)
    (F : ∀ (w : World) (mg : Str → Option Value) (fa : Addr) (h : Heap), (K w.params).In h → h.Ns mainGlobals mg → mg d.name = some (.ref fa) →
      ∃ fd : FuncData, (∀ (s : Shared) (u : Value), BindsTo s fd ⟨[u], []⟩ [("_law_script", u)]) ∧ ∀ base : Heap, (K w.params).In base → base.Ns mainGlobals mg → FnOk l.prog w (K w.params) mg base (L2.CX l.prog w) 6 fa fd ["_law_script"] (spLaw (K w.params))) :
    PySem.W.WalkO q loose XP YP l.row.toRowW d [] (fun f vs => PySem.call f vs) :=
  L2.walk_ofB (n := 63) (k := 6) (x := "_law_script") (CX := fun w => L2.CX l.prog w) (sp := fun w => spLaw (K w.params)) hn (by decide) hdf ⟨rfl, by decide, by decide⟩ hY F (fun _ _ a ns hl _ _ hS => ⟨a, ns, rfl, hS, hl, fun _ => rfl⟩) fun _ _ _ _ _ z => by
    obtain ⟨_, _, _, _, _, _, _, _, _, _, _, _, hE⟩ := z
    exact hE
end K26
open PySem PySem.W PyProof.Rows
set_option maxRecDepth 100000 in
set_option maxHeartbeats 0 in
theorem PySem.Challenge.cw_lotgivers_k26_exact_shares_holds : PySem.Challenge.rw_lotgivers_k26_exact_shares.Holds := by
  w_on; o_law; k_head; (case hw => w_witness2)
  k_fill
  refine K26.walk (l := PySem.Challenge.rw_lotgivers_k26_exact_shares) rfl rfl (fun w h Y => PySem.W.kIn_of Y) ?F
  case F =>
    intro w mg fa h KX G hmg
    refine' K26.all26 hmg (K26.T26_mk KX G ?aC_Share ?a_common_part ?l_common_part ?c_common_part ?k_common_part ?a_Share___init__ ?i_Share___init__ ?l_Share___init__ ?c_Share___init__ ?k_Share___init__ ?a_Share___eq__ ?i_Share___eq__ ?l_Share___eq__ ?c_Share___eq__ ?k_Share___eq__ ?a_Share___str__ ?i_Share___str__ ?l_Share___str__ ?c_Share___str__ ?k_Share___str__ ?a_Share___repr__ ?i_Share___repr__ ?l_Share___repr__ ?c_Share___repr__ ?k_Share___repr__ ?a_Share_more_than ?i_Share_more_than ?l_Share_more_than ?c_Share_more_than ?k_Share_more_than ?a__law_begin ?l__law_begin ?c__law_begin ?k__law_begin ?a__law_take ?l__law_take ?c__law_take ?k__law_take ?a__law_of ?l__law_of ?c__law_of ?k__law_of ?a__law_two ?l__law_two ?c__law_two ?k__law_two ?a__law_common ?l__law_common ?c__law_common ?k__law_common ?a__law_right ?l__law_right ?c__law_right ?k__law_right ?a__law_compared_right ?l__law_compared_right ?c__law_compared_right ?k__law_compared_right ?a_law ?l_law ?c_law ?k_law ?pg_Share ?hd_Share ?po_Share ?sa_Share ?mkk_Share ?kc_Share ?ha_Share ?hn_Share ?ht_Share ?hm_Share ?na_Share_part ?na_Share_whole ?ne_Share ?nf_Share_tuple ?nf_Share_str ?ko_Share_tuple ?ko_Share_str ?n_len ?n_abs ?n_min ?n_all ?n_repr ?n_str ?n_range ?n_enumerate ?n_isinstance ?n_bool)
    (case aC_Share => k_is)
    (case a_common_part => k_is)
    (case l_common_part => k_is)
    (case c_common_part => k_is)
    (case k_common_part => k_is)
    (case a_Share___init__ => k_is)
    (case i_Share___init__ => k_is)
    (case l_Share___init__ => k_is)
    (case c_Share___init__ => k_is)
    (case k_Share___init__ => k_is)
    (case a_Share___eq__ => k_is)
    (case i_Share___eq__ => k_is)
    (case l_Share___eq__ => k_is)
    (case c_Share___eq__ => k_is)
    (case k_Share___eq__ => k_is)
    (case a_Share___str__ => k_is)
    (case i_Share___str__ => k_is)
    (case l_Share___str__ => k_is)
    (case c_Share___str__ => k_is)
    (case k_Share___str__ => k_is)
    (case a_Share___repr__ => k_is)
    (case i_Share___repr__ => k_is)
    (case l_Share___repr__ => k_is)
    (case c_Share___repr__ => k_is)
    (case k_Share___repr__ => k_is)
    (case a_Share_more_than => k_is)
    (case i_Share_more_than => k_is)
    (case l_Share_more_than => k_is)
    (case c_Share_more_than => k_is)
    (case k_Share_more_than => k_is)
    (case a__law_begin => k_is)
    (case l__law_begin => k_is)
    (case c__law_begin => k_is)
    (case k__law_begin => k_is)
    (case a__law_take => k_is)
    (case l__law_take => k_is)
    (case c__law_take => k_is)
    (case k__law_take => k_is)
    (case a__law_of => k_is)
    (case l__law_of => k_is)
    (case c__law_of => k_is)
    (case k__law_of => k_is)
    (case a__law_two => k_is)
    (case l__law_two => k_is)
    (case c__law_two => k_is)
    (case k__law_two => k_is)
    (case a__law_common => k_is)
    (case l__law_common => k_is)
    (case c__law_common => k_is)
    (case k__law_common => k_is)
    (case a__law_right => k_is)
    (case l__law_right => k_is)
    (case c__law_right => k_is)
    (case k__law_right => k_is)
    (case a__law_compared_right => k_is)
    (case l__law_compared_right => k_is)
    (case c__law_compared_right => k_is)
    (case k__law_compared_right => k_is)
    (case a_law => k_is)
    (case l_law => k_is)
    (case c_law => k_is)
    (case k_law => k_is)
    (case pg_Share => k_is)
    (case hd_Share => k_is)
    (case po_Share => k_is)
    (case sa_Share => k_is)
    (case mkk_Share => k_is)
    (case kc_Share => k_is)
    (case ha_Share => k_is)
    (case hn_Share => k_is)
    (case ht_Share => k_is)
    (case hm_Share => k_is)
    (case na_Share_part => k_is)
    (case na_Share_whole => k_is)
    (case ne_Share => k_is)
    (case nf_Share_tuple => k_is)
    (case nf_Share_str => k_is)
    (case ko_Share_tuple => first | k_is | kit_is)
    (case ko_Share_str => first | k_is | kit_is)
    (case n_len => k_is)
    (case n_abs => k_is)
    (case n_min => k_is)
    (case n_all => k_is)
    (case n_repr => k_is)
    (case n_str => k_is)
    (case n_range => k_is)
    (case n_enumerate => k_is)
    (case n_isinstance => k_is)
    (case n_bool => k_is)
