import PyProof.Rows.All
import Wide.All
import OpenK.AllK
import Wide.FinOn
import HandS.ForMost
import HandS.Exc
import HandS.ExcInit
import HandS.EndBits
import HandS.Wide
import HandS.TupAny
import HandS.TupMul
import HandS.Deep
import HandS.FStr
import HandS.RaiseMore
import HandS.IsInst
import HandS.WordsExc
import HandS.ExcOwn
import HandS.Comp
import PyProof.CallFns
import HandS.Dict
import HandS.Small
import HandS.WordsDict
import KE.SortData
import PyProof.Rows.SortWalk
import HandS.Conv
import HandS.More
import KE.KDictSum
import PyProof.TupleOfSeq
import KE.KCallOwn
import HandS.ExcIs
import HandS.ExcField
import HandS.ExcValue
import PyProof.StrOps2
import PyProof.ReprRoads
import PyProof.ReprLen
import PySem.Challenge.RW_lotgivers_k08_refusals_made
set_option Elab.async false
set_option linter.all false
set_option maxRecDepth 100000
set_option maxHeartbeats 4000000
namespace MP
open PySem PySem.Spec PyProof.Rows L2

/-- deep data: tuples, lists that nobody changes any more, dicts and objects likewise; ref: an object of the store -/
inductive D where
  | non | bl (b : Bool) | int (i : Int) | str (s : Str)
  | tup (xs : List D) | lst (xs : List D) | dct (t : Bool) (kvs : List (D × D)) | obj (C : Addr) (fs : List (Str × D)) | exn (C : Addr) (fs : List (Str × D)) | ref (i : Nat)

inductive O where
  | lst (xs : List D) | dct (t : Bool) (kvs : List (D × D)) | ins (C : Addr) (fs : List (Str × D))

abbrev Sto := List O
abbrev Ev := List (Option D)

inductive R (α : Type) where
  | ok (a : α) (S : Sto)
  | exc (C : Addr) (fs : List (Str × D)) (S : Sto)
  | bad
def R.bind {α β : Type} (r : R α) (f : α → Sto → R β) : R β := match r with
  | .ok a S => f a S
  | .exc C fs S => .exc C fs S
  | .bad => .bad
theorem bind_ok {α β : Type} (a : α) (S : Sto) (f : α → Sto → R β) : (R.ok a S).bind f = f a S := rfl
theorem bind_exc {α β : Type} (C : Addr) (fs : List (Str × D)) (S : Sto) (f : α → Sto → R β) : (R.exc C fs S).bind f = .exc C fs S := rfl
theorem bind_bad {α β : Type} (f : α → Sto → R β) : (R.bad : R α).bind f = .bad := rfl

def keyD : Key → D
  | .inl i => .int i
  | .inr s => .str s

/-- at a: an exception of the class at C, its dict (none | at d) -/
def ExV (C : Addr) (d : Option Addr) (a : Addr) : HO := .ext fun h => ∃ (oe : Obj) (vs : Array Value), h.get? a = some oe ∧ Zc (.ref C) d oe ∧ oe.data = .fields vs
/-- at dd: the dict of an exception -/
def XdAt (H : Hp) (dd : Addr) (fs : List (Str × V)) : Prop := H dd = some (exd dd fs) ∨ H dd = some (.xd fs)
theorem XdAt.has {H : Hp} {dd : Addr} {fs : List (Str × V)} (h : XdAt H dd fs) : ∃ o, H dd = some o := by
  rcases h with h | h
  · exact ⟨_, h⟩
  · exact ⟨_, h⟩

mutual
inductive VR (K : PySem.W.Frag) (m : List Addr) (H : Hp) : V → D → Prop where
  | non : VR K m H .non .non
  | bl (b : Bool) : VR K m H (.bl b) (.bl b)
  | int (i : Int) : VR K m H (.int i) (.int i)
  | str (s : Str) : VR K m H (.str s) (.str s)
  | tup {a : Addr} {vs : List V} {ds : List D} (h : H a = some (.tup vs)) (r : VRs K m H vs ds) : VR K m H (.ref a) (.tup ds)
  | lst {a : Addr} {vs : List V} {ds : List D} (n : a ∉ m) (h : Rd H a (.lst vs)) (r : VRs K m H vs ds) : VR K m H (.ref a) (.lst ds)
  | lstK {a : Addr} {vs : List V} {ds : List D} {o : Obj} {its : Array Value} {n : Nat} (hk : K.lookup a = some o) (h1 : o.cls = .type "list") (h2 : o.dict = none) (h3 : o.data = .seq its n) (h4 : its.size ≤ sizeLine) (h5 : Vals vs its.toList) (r : VRs K m H vs ds) : VR K m H (.ref a) (.lst ds)
  | dct {a : Addr} {vs : List (Key × V)} {ds : List (D × D)} (n : a ∉ m) (h : H a = some (.dK vs)) (r : VDk K m H vs ds) : VR K m H (.ref a) (.dct false ds)
  | dctT {a : Addr} {vs : List (List Key × V)} {ds : List (D × D)} (n : a ∉ m) (h : H a = some (.dT vs)) (r : VDt K m H vs ds) : VR K m H (.ref a) (.dct true ds)
  | obj {a C dx : Addr} {fs : List (Str × V)} {gs : List (Str × D)} (n : a ∉ m) (h : H a = some (.ins C dx fs)) (r : VFs K m H fs gs) : VR K m H (.ref a) (.obj C gs)
  | exn0 {a C : Addr} (n : a ∉ m) (h : H a = some (ExV C none a)) : VR K m H (.ref a) (.exn C [])
  | exnD {a C dd : Addr} {fs : List (Str × V)} {gs : List (Str × D)} (n : a ∉ m) (nd : dd ∉ m) (h : H a = some (ExV C (some dd) a)) (hd : XdAt H dd fs) (r : VFs K m H fs gs) : VR K m H (.ref a) (.exn C gs)
  | ref {i : Nat} {a : Addr} (h : m[i]? = some a) : VR K m H (.ref a) (.ref i)
inductive VRs (K : PySem.W.Frag) (m : List Addr) (H : Hp) : List V → List D → Prop where
  | nil : VRs K m H [] []
  | cons {v : V} {d : D} {vs : List V} {ds : List D} (h : VR K m H v d) (r : VRs K m H vs ds) : VRs K m H (v :: vs) (d :: ds)
inductive VFs (K : PySem.W.Frag) (m : List Addr) (H : Hp) : List (Str × V) → List (Str × D) → Prop where
  | nil : VFs K m H [] []
  | cons {f : Str} {v : V} {d : D} {vs : List (Str × V)} {ds : List (Str × D)} (h : VR K m H v d) (r : VFs K m H vs ds) : VFs K m H ((f, v) :: vs) ((f, d) :: ds)
inductive VDk (K : PySem.W.Frag) (m : List Addr) (H : Hp) : List (Key × V) → List (D × D) → Prop where
  | nil : VDk K m H [] []
  | cons {k : Key} {v : V} {d : D} {vs : List (Key × V)} {ds : List (D × D)} (h : VR K m H v d) (r : VDk K m H vs ds) : VDk K m H ((k, v) :: vs) ((keyD k, d) :: ds)
inductive VDt (K : PySem.W.Frag) (m : List Addr) (H : Hp) : List (List Key × V) → List (D × D) → Prop where
  | nil : VDt K m H [] []
  | cons {k : List Key} {v : V} {d : D} {vs : List (List Key × V)} {ds : List (D × D)} (h : VR K m H v d) (r : VDt K m H vs ds) : VDt K m H ((k, v) :: vs) ((.tup (k.map keyD), d) :: ds)
end

/-- from (m, H) on: the store's places stay and grow by new ones; what is not in the store stays -/
structure Ext (m : List Addr) (H : Hp) (m' : List Addr) (H' : Hp) : Prop where
  pre : ∃ l, m' = m ++ l
  new : ∀ a ∈ m', a ∈ m ∨ H a = none
  keep : ∀ a o, a ∉ m → H a = some o → H' a = some o

inductive OR (K : PySem.W.Frag) (m : List Addr) (H : Hp) (a : Addr) : O → Prop where
  | lst {vs : List V} {ds : List D} (h : H a = some (.lst vs)) (r : VRs K m H vs ds) : OR K m H a (.lst ds)
  | dct {vs : List (Key × V)} {ds : List (D × D)} (h : H a = some (.dK vs)) (r : VDk K m H vs ds) : OR K m H a (.dct false ds)
  | dctT {vs : List (List Key × V)} {ds : List (D × D)} (h : H a = some (.dT vs)) (r : VDt K m H vs ds) : OR K m H a (.dct true ds)
  | ins {C dx : Addr} {fs : List (Str × V)} {gs : List (Str × D)} (h : H a = some (.ins C dx fs)) (r : VFs K m H fs gs) : OR K m H a (.ins C gs)

structure SR (K : PySem.W.Frag) (m : List Addr) (H : Hp) (S : Sto) : Prop where
  nd : m.Nodup
  len : m.length = S.length
  at_ : ∀ (i : Nat) (a : Addr) (o : O), m[i]? = some a → S[i]? = some o → OR K m H a o

theorem OR.mut {K : PySem.W.Frag} {m : List Addr} {H : Hp} {a : Addr} {o : O} (h : OR K m H a o) : Mut (H a) := by
  cases h with
  | lst h _ => rw [h]; trivial
  | dct h _ => rw [h]; trivial
  | dctT h _ => rw [h]; trivial
  | ins h _ => rw [h]; trivial
theorem SR.mut {K : PySem.W.Frag} {m : List Addr} {H : Hp} {S : Sto} (x : SR K m H S) {a : Addr} (h : a ∈ m) : Mut (H a) := by
  obtain ⟨i, hi, e⟩ := List.mem_iff_getElem.mp h
  have hs : i < S.length := x.len ▸ hi
  exact (x.at_ i a S[i] (by rw [List.getElem?_eq_getElem hi, e]) (List.getElem?_eq_getElem hs)).mut
theorem not_mut_tup {H : Hp} {a : Addr} {xs : List V} (h : Rd H a (.tup xs)) : ¬ Mut (H a) := by
  rcases h with h | ⟨o, h⟩
  · rw [h]; exact fun z => z
  · rw [h]; exact fun z => z
theorem Ext.refl {m : List Addr} {H : Hp} : Ext m H m H := ⟨⟨[], by simp⟩, fun a h => .inl h, fun _ _ _ h => h⟩
theorem Ext.sub {m m' : List Addr} {H H' : Hp} (e : Ext m H m' H') {a : Addr} (h : a ∈ m) : a ∈ m' := by
  obtain ⟨l, e⟩ := e.pre
  rw [e]; exact List.mem_append_left _ h
theorem Ext.trans {m m1 m2 : List Addr} {H H1 H2 : Hp} (a : Ext m H m1 H1) (b : Ext m1 H1 m2 H2) : Ext m H m2 H2 := by
  have key : ∀ c o, c ∉ m → H c = some o → c ∉ m1 := fun c o n e z => by
    rcases a.new c z with y | y
    · exact n y
    · rw [y] at e; cases e
  refine ⟨?_, fun c hc => ?_, fun c o n e => b.keep c o (key c o n e) (a.keep c o n e)⟩
  · obtain ⟨l, e⟩ := a.pre
    obtain ⟨k, f⟩ := b.pre
    exact ⟨l ++ k, by rw [f, e, List.append_assoc]⟩
  · by_cases hm : c ∈ m
    · exact .inl hm
    · right
      cases q : H c with
      | none => rfl
      | some o =>
        rcases b.new c hc with y | y
        · exact absurd y (key c o hm q)
        · rw [a.keep c o hm q] at y; cases y
theorem Ext.rd {m m' : List Addr} {H H' : Hp} (e : Ext m H m' H') {a : Addr} {u : HO} (n : a ∉ m) (h : Rd H a u) : Rd H' a u := by
  rcases h with h | ⟨o, h⟩
  · exact .inl (e.keep a _ n h)
  · exact .inr ⟨o, e.keep a _ n h⟩
theorem Rd.has {H : Hp} {a : Addr} {u : HO} (h : Rd H a u) : ∃ o, H a = some o := by
  rcases h with h | ⟨o, h⟩
  · exact ⟨_, h⟩
  · exact ⟨_, h⟩
theorem Ext.nin {m m' : List Addr} {H H' : Hp} (e : Ext m H m' H') {a : Addr} (n : a ∉ m) (h : ∃ o, H a = some o) : a ∉ m' := fun z => by
  obtain ⟨o, h⟩ := h
  rcases e.new a z with y | y
  · exact n y
  · rw [y] at h; cases h
theorem Ext.get {m m' : List Addr} {H H' : Hp} (e : Ext m H m' H') {i : Nat} {a : Addr} (h : m[i]? = some a) : m'[i]? = some a := by
  obtain ⟨l, e⟩ := e.pre
  rw [e, List.getElem?_append_left (List.getElem?_eq_some_iff.mp h).1]
  exact h

section
variable {K : PySem.W.Frag} {m m' : List Addr} {H H' : Hp}
theorem tup_ext (e : Ext m H m' H') (mu : ∀ a ∈ m, Mut (H a)) {a : Addr} {vs : List V} (h : H a = some (.tup vs)) : H' a = some (.tup vs) :=
  e.keep _ _ (fun z => not_mut_tup (.inl h) (mu a z)) h
mutual
theorem VR.ext (e : Ext m H m' H') (mu : ∀ a ∈ m, Mut (H a)) {v : V} {d : D} : VR K m H v d → VR K m' H' v d
  | .non => .non
  | .bl b => .bl b
  | .int i => .int i
  | .str s => .str s
  | .tup h r => .tup (tup_ext e mu h) (VRs.ext e mu r)
  | .lst n h r => .lst (e.nin n (Rd.has h)) (e.rd n h) (VRs.ext e mu r)
  | .lstK hk h1 h2 h3 h4 h5 r => .lstK hk h1 h2 h3 h4 h5 (VRs.ext e mu r)
  | .dct n h r => .dct (e.nin n ⟨_, h⟩) (e.keep _ _ n h) (VDk.ext e mu r)
  | .dctT n h r => .dctT (e.nin n ⟨_, h⟩) (e.keep _ _ n h) (VDt.ext e mu r)
  | .obj n h r => .obj (e.nin n ⟨_, h⟩) (e.keep _ _ n h) (VFs.ext e mu r)
  | .exn0 n h => .exn0 (e.nin n ⟨_, h⟩) (e.keep _ _ n h)
  | .exnD n nd h hd r => .exnD (e.nin n ⟨_, h⟩) (e.nin nd hd.has) (e.keep _ _ n h) (hd.imp (e.keep _ _ nd) (e.keep _ _ nd)) (VFs.ext e mu r)
  | .ref h => .ref (e.get h)
theorem VRs.ext (e : Ext m H m' H') (mu : ∀ a ∈ m, Mut (H a)) {v : List V} {d : List D} : VRs K m H v d → VRs K m' H' v d
  | .nil => .nil
  | .cons h r => .cons (VR.ext e mu h) (VRs.ext e mu r)
theorem VFs.ext (e : Ext m H m' H') (mu : ∀ a ∈ m, Mut (H a)) {v : List (Str × V)} {d : List (Str × D)} : VFs K m H v d → VFs K m' H' v d
  | .nil => .nil
  | .cons h r => .cons (VR.ext e mu h) (VFs.ext e mu r)
theorem VDk.ext (e : Ext m H m' H') (mu : ∀ a ∈ m, Mut (H a)) {v : List (Key × V)} {d : List (D × D)} : VDk K m H v d → VDk K m' H' v d
  | .nil => .nil
  | .cons h r => .cons (VR.ext e mu h) (VDk.ext e mu r)
theorem VDt.ext (e : Ext m H m' H') (mu : ∀ a ∈ m, Mut (H a)) {v : List (List Key × V)} {d : List (D × D)} : VDt K m H v d → VDt K m' H' v d
  | .nil => .nil
  | .cons h r => .cons (VR.ext e mu h) (VDt.ext e mu r)
end
end

/-- the slots -/
structure ER (K : PySem.W.Frag) (m : List Addr) (H : Hp) (σ : L2.St) (ρ : Ev) : Prop where
  at_ : ∀ (i : Nat) (d : D), ρ[i]? = some (some d) → ∃ v, σ[i]? = some (some v) ∧ VR K m H v d
  len : ρ.length = σ.length
theorem ER.ext {K : PySem.W.Frag} {m m' : List Addr} {H H' : Hp} {σ : L2.St} {ρ : Ev} (r : ER K m H σ ρ) (e : Ext m H m' H') (mu : ∀ a ∈ m, Mut (H a)) : ER K m' H' σ ρ := ⟨fun i d h => by
  obtain ⟨v, h1, h2⟩ := r.at_ i d h
  exact ⟨v, h1, h2.ext e mu⟩, r.len⟩
theorem ER.set {K : PySem.W.Frag} {m : List Addr} {H : Hp} {σ : L2.St} {ρ : Ev} (r : ER K m H σ ρ) {i : Nat} {v : V} {d : D} (h : VR K m H v d) : ER K m H (σ.set i (some v)) (ρ.set i (some d)) := ⟨fun j d' e => by
  have hl := r.len
  by_cases hj : i = j
  · subst hj
    have hi : i < ρ.length := by
      have := (List.getElem?_eq_some_iff.mp e).1
      simpa using this
    rw [List.getElem?_set_self hi] at e
    cases e
    exact ⟨v, by rw [List.getElem?_set_self (by omega)], h⟩
  · rw [List.getElem?_set_ne hj] at e ⊢
    exact r.at_ j d' e, by simp [r.len]⟩

/-- what an expression is worth -/
abbrev LE := Ev → Sto → R D
/-- behind an expression -/
def VP (X : Cx) (pins : List (Addr × Obj)) (σ : L2.St) (m : List Addr) (H : Hp) (d : D) (S' : Sto) (u : Value) (s' : Shared) : Prop :=
  ∃ v H' m', Inv X pins σ H' s' ∧ RelV v u ∧ Ext m H m' H' ∧ SR X.K m' H' S' ∧ VR X.K m' H' v d
def VPr (X : Cx) (pins : List (Addr × Obj)) (σ : L2.St) (m : List Addr) (H : Hp) (r : R D) (u : Value) (s' : Shared) : Prop := ∃ d S', r = .ok d S' ∧ VP X pins σ m H d S' u s'
/-- an exception that leaves, by the store -/
def WL (K : PySem.W.Frag) (m : List Addr) (H : Hp) (C : Addr) (fs : List (Str × D)) (S' : Sto) : Value → Option Addr → Hp → Prop := fun cls d H' =>
  cls = .ref C ∧ ∃ (dd : Addr) (vs : List (Str × V)) (m' : List Addr), d = some dd ∧ H' dd = some (.xd vs) ∧ Ext m H m' H' ∧ SR K m' H' S' ∧ VFs K m' H' vs fs
def Hope (X : Cx) (σ : L2.St) (m : List Addr) (H : Hp) {α : Type} (r : R α) : Prop :=
  r ≠ .bad ∧ ∀ C fs S', r = .exc C fs S' → ∀ u s', XE X (fun cls d σ' H' => σ' = σ ∧ WL X.K m H C fs S' cls d H') u s' → X.xe u s'
theorem WL.ext {K : PySem.W.Frag} {m m1 : List Addr} {H H1 : Hp} {C : Addr} {fs : List (Str × D)} {S' : Sto} {cls : Value} {d : Option Addr} {H' : Hp} (e : Ext m H m1 H1) (w : WL K m1 H1 C fs S' cls d H') : WL K m H C fs S' cls d H' := by
  obtain ⟨h1, dd, vs, m', h2, h3, h4, h5⟩ := w
  exact ⟨h1, dd, vs, m', h2, h3, e.trans h4, h5⟩
theorem XE.imp {X : Cx} {W W' : WX} {u : Value} {s' : Shared} (x : XE X W u s') (h : ∀ c d σ H, W c d σ H → W' c d σ H) : XE X W' u s' := by
  obtain ⟨a, B, sI, pins, σ, H, cls, d, e, I, nb, up, sky, na, os, ag, w⟩ := x
  exact ⟨a, B, sI, pins, σ, H, cls, d, e, I, nb, up, sky, na, os, ag, h _ _ _ _ w⟩
theorem Hope.ext {X : Cx} {σ : L2.St} {m m1 : List Addr} {H H1 : Hp} {α : Type} {r : R α} (h : Hope X σ m H r) (e : Ext m H m1 H1) : Hope X σ m1 H1 r :=
  ⟨h.1, fun C fs S' q u s' x => h.2 C fs S' q u s' (XE.imp x fun _ _ _ _ z => ⟨z.1, z.2.ext e⟩)⟩
theorem Hope.ok {X : Cx} {σ : L2.St} {m : List Addr} {H : Hp} {α : Type} {a : α} {S : Sto} : Hope X σ m H (R.ok a S) := ⟨fun z => (nomatch z), fun _ _ _ q => (nomatch q)⟩
theorem Hope.exc {X : Cx} {σ : L2.St} {m : List Addr} {H : Hp} {α β : Type} {C : Addr} {fs : List (Str × D)} {S : Sto} (h : Hope X σ m H (R.exc C fs S : R α)) : Hope X σ m H (R.exc C fs S : R β) :=
  ⟨fun z => (nomatch z), fun C' fs' S' q => by cases q; exact h.2 _ _ _ rfl⟩

structure PEL (X : Cx) (e : Expr) (l : LE) : Prop where
  run : ∀ (pins : List (Addr × Obj)) (s : Shared) (σ : L2.St) (H : Hp) (m : List Addr) (ρ : Ev) (S : Sto), Inv X pins σ H s → SR X.K m H S → ER X.K m H σ ρ → Hope X σ m H (l ρ S) →
    wpAny (model X.prog X.w) X.A (eval e X.env) (VPr X pins σ m H (l ρ S)) X.xe s
/-- a test -/
abbrev LT := Ev → Sto → R Bool
def TPr (X : Cx) (pins : List (Addr × Obj)) (σ : L2.St) (m : List Addr) (H : Hp) (r : R Bool) (b : Bool) (s' : Shared) : Prop :=
  ∃ S' H' m', r = .ok b S' ∧ Inv X pins σ H' s' ∧ Ext m H m' H' ∧ SR X.K m' H' S'
structure PTL (X : Cx) (e : Expr) (l : LT) : Prop where
  run : ∀ (pins : List (Addr × Obj)) (s : Shared) (σ : L2.St) (H : Hp) (m : List Addr) (ρ : Ev) (S : Sto), Inv X pins σ H s → SR X.K m H S → ER X.K m H σ ρ → Hope X σ m H (l ρ S) →
    wpAny (model X.prog X.w) X.A (isTrue e X.env (eval e X.env)) (TPr X pins σ m H (l ρ S)) X.xe s
/-- arguments -/
abbrev LA := Ev → Sto → R (List D)
def APr (X : Cx) (pins : List (Addr × Obj)) (σ : L2.St) (m : List Addr) (H : Hp) (r : R (List D)) (us : List Value) (s' : Shared) : Prop :=
  ∃ ds S' vs H' m', r = .ok ds S' ∧ Inv X pins σ H' s' ∧ Vals vs us ∧ Ext m H m' H' ∧ SR X.K m' H' S' ∧ VRs X.K m' H' vs ds
structure PAL (X : Cx) (es : List Expr) (l : LA) : Prop where
  run : ∀ (pos : Pos) (pins : List (Addr × Obj)) (s : Shared) (σ : L2.St) (H : Hp) (m : List Addr) (ρ : Ev) (S : Sto), Inv X pins σ H s → SR X.K m H S → ER X.K m H σ ρ → Hope X σ m H (l ρ S) →
    wpAny (model X.prog X.w) X.A (spliced (backTo pos (starEach es X.env))) (APr X pins σ m H (l ρ S)) X.xe s
end MP

namespace MP
open PySem PySem.Spec PyProof.Rows L2

section
variable {K : PySem.W.Frag} {m : List Addr} {H : Hp} {S : Sto} {p : Addr} {o : HO}
theorem SR.muts (x : SR K m H S) : ∀ a ∈ m, Mut (H a) := fun _ h => x.mut h
theorem SR.nin (x : SR K m H S) (h : H p = none) : p ∉ m := fun z => by
  have := x.mut z
  rw [h] at this; exact this
theorem Ext.fresh (h : H p = none) : Ext m H m (upd H p o) := ⟨⟨[], by simp⟩, fun a h => .inl h, fun a u _ e => by rw [upd_ne (ne_of_none e h)]; exact e⟩
theorem OR.ext {m' : List Addr} {H' : Hp} {a : Addr} {ob : O} (r : OR K m H a ob) (e : Ext m H m' H') (mu : ∀ a ∈ m, Mut (H a)) (h : H' a = H a) : OR K m' H' a ob := by
  cases r with
  | lst q r => exact .lst (h.trans q) (r.ext e mu)
  | dct q r => exact .dct (h.trans q) (r.ext e mu)
  | dctT q r => exact .dctT (h.trans q) (r.ext e mu)
  | ins q r => exact .ins (h.trans q) (r.ext e mu)
theorem SR.fresh (x : SR K m H S) (h : H p = none) : SR K m (upd H p o) S := ⟨x.nd, x.len, fun i a ob h1 h2 => (x.at_ i a ob h1 h2).ext (Ext.fresh h) x.muts (upd_ne fun z => x.nin h (z ▸ List.mem_iff_getElem?.mpr ⟨i, h1⟩))⟩

/-- what is wanted of a value and the heap behind, by the store -/
def QV (K : PySem.W.Frag) (m : List Addr) (H : Hp) (S' : Sto) (d : D) : VK := fun v H' => ∃ m', Ext m H m' H' ∧ SR K m' H' S' ∧ VR K m' H' v d
theorem qv_same (x : SR K m H S) {v : V} {d : D} (r : VR K m H v d) : QV K m H S d v H := ⟨m, Ext.refl, x, r⟩
theorem qv_new (x : SR K m H S) (h : H p = none) {v : V} {d : D} (r : VR K m (upd H p o) v d) : QV K m H S d v (upd H p o) := ⟨m, Ext.fresh h, x.fresh h, r⟩
theorem VRs.fresh (x : SR K m H S) (h : H p = none) {vs : List V} {ds : List D} (r : VRs K m H vs ds) : VRs K m (upd H p o) vs ds := r.ext (Ext.fresh h) x.muts
theorem VR.fresh (x : SR K m H S) (h : H p = none) {v : V} {d : D} (r : VR K m H v d) : VR K m (upd H p o) v d := r.ext (Ext.fresh h) x.muts
theorem vr_newTup (x : SR K m H S) (h : H p = none) {vs : List V} {ds : List D} (r : VRs K m H vs ds) : VR K m (upd H p (.tup vs)) (.ref p) (.tup ds) := .tup upd_same (r.fresh x h)
theorem vr_newLst (x : SR K m H S) (h : H p = none) {vs : List V} {ds : List D} (r : VRs K m H vs ds) : VR K m (upd H p (.lst vs)) (.ref p) (.lst ds) := .lst (x.nin h) (.inl upd_same) (r.fresh x h)
/-- a new object put into the store -/
theorem SR.snoc (x : SR K m H S) (h : H p = none) {ob : O} (r : ∀ m' H', Ext m H m' H' → H' p = some o → OR K m' H' p ob) : Ext m H (m ++ [p]) (upd H p o) ∧ SR K (m ++ [p]) (upd H p o) (S ++ [ob]) := by
  have e : Ext m H (m ++ [p]) (upd H p o) := ⟨⟨[p], rfl⟩, fun a ha => (List.mem_append.mp ha).imp id fun z => by
    rw [List.mem_singleton.mp z]; exact h, fun a u _ q => by rw [upd_ne (ne_of_none q h)]; exact q⟩
  refine ⟨e, List.nodup_append.mpr ⟨x.nd, by simp, fun a ha b hb z => ?_⟩, by simp [x.len], fun i a u h1 h2 => ?_⟩
  · rw [List.mem_singleton.mp hb] at z
    exact x.nin h (z ▸ ha)
  · by_cases hi : i < m.length
    · rw [List.getElem?_append_left hi] at h1
      rw [List.getElem?_append_left (x.len ▸ hi)] at h2
      exact (x.at_ i a u h1 h2).ext e x.muts (upd_ne fun z => x.nin h (z ▸ List.mem_iff_getElem?.mpr ⟨i, h1⟩))
    · have hl : i = m.length := by
        have := (List.getElem?_eq_some_iff.mp h1).1
        simp at this; omega
      subst hl
      rw [List.getElem?_append_right (Nat.le_refl _)] at h1
      rw [x.len, List.getElem?_append_right (Nat.le_refl _)] at h2
      simp at h1 h2
      subst h1 h2
      exact r _ _ e upd_same
theorem qv_newL (x : SR K m H S) (h : H p = none) {vs : List V} {ds : List D} (r : VRs K m H vs ds) : QV K m H (S ++ [.lst ds]) (.ref S.length) (.ref p) (upd H p (.lst vs)) := by
  obtain ⟨e, q⟩ := x.snoc (o := .lst vs) (ob := .lst ds) h fun m' H' e q => .lst q (r.ext e x.muts)
  exact ⟨_, e, q, .ref (by rw [← x.len]; simp)⟩
theorem VRs.length {vs : List V} {ds : List D} : VRs K m H vs ds → vs.length = ds.length
  | .nil => rfl
  | .cons _ r => by rw [List.length_cons, List.length_cons, r.length]
theorem VRs.append {vs ws : List V} {ds es : List D} : VRs K m H vs ds → VRs K m H ws es → VRs K m H (vs ++ ws) (ds ++ es)
  | .nil, s => s
  | .cons h r, s => .cons h (r.append s)
theorem VRs.take {vs : List V} {ds : List D} : ∀ (n : Nat), VRs K m H vs ds → VRs K m H (vs.take n) (ds.take n)
  | 0, _ => .nil
  | _ + 1, .nil => .nil
  | n + 1, .cons h r => .cons h (VRs.take n r)
theorem VRs.drop {vs : List V} {ds : List D} : ∀ (n : Nat), VRs K m H vs ds → VRs K m H (vs.drop n) (ds.drop n)
  | 0, r => r
  | _ + 1, .nil => .nil
  | n + 1, .cons h r => VRs.drop n r
theorem VRs.getr {vs : List V} {ds : List D} : ∀ {i : Nat} {d : D}, VRs K m H vs ds → ds[i]? = some d → ∃ v, vs[i]? = some v ∧ VR K m H v d
  | _, _, .nil, e => by simp at e
  | 0, _, .cons h _, e => by simp at e; subst e; exact ⟨_, rfl, h⟩
  | i + 1, d, .cons _ r, e => by
    obtain ⟨v, h1, h2⟩ := VRs.getr (i := i) (d := d) r (by simpa using e)
    exact ⟨v, by simpa using h1, h2⟩
theorem VRs.getl {vs : List V} {ds : List D} : ∀ {i : Nat} {v : V}, VRs K m H vs ds → vs[i]? = some v → ∃ d, ds[i]? = some d ∧ VR K m H v d
  | _, _, .nil, e => by simp at e
  | 0, _, .cons h _, e => by simp at e; subst e; exact ⟨_, rfl, h⟩
  | i + 1, d, .cons _ r, e => by
    obtain ⟨v, h1, h2⟩ := VRs.getl (i := i) (v := d) r (by simpa using e)
    exact ⟨v, by simpa using h1, h2⟩
theorem VRs.set {v : V} {d : D} (h : VR K m H v d) {vs : List V} {ds : List D} : ∀ (i : Nat), VRs K m H vs ds → VRs K m H (vs.set i v) (ds.set i d)
  | _, .nil => .nil
  | 0, .cons _ r => .cons h r
  | i + 1, .cons q r => .cons q (VRs.set h i r)
theorem VRs.eraseIdx {vs : List V} {ds : List D} : ∀ (i : Nat), VRs K m H vs ds → VRs K m H (vs.eraseIdx i) (ds.eraseIdx i)
  | _, .nil => .nil
  | 0, .cons _ r => r
  | i + 1, .cons q r => .cons q (VRs.eraseIdx i r)
theorem VRs.of_ints {ns : List Int} : VRs K m H (ns.map V.int) (ns.map D.int) := by
  induction ns with
  | nil => exact .nil
  | cons n ns ih => exact .cons (.int n) ih
theorem VRs.of_strs {ns : List Str} : VRs K m H (ns.map V.str) (ns.map D.str) := by
  induction ns with
  | nil => exact .nil
  | cons n ns ih => exact .cons (.str n) ih
end

/-- an object of the store as it stands -/
def vw (S : Sto) : D → D
  | .ref i => match S[i]? with
    | some (.lst xs) => .lst xs
    | some (.dct t kvs) => .dct t kvs
    | some (.ins C fs) => .obj C fs
    | none => .ref i
  | d => d
section
variable {K : PySem.W.Frag} {m : List Addr} {H : Hp} {S : Sto}
theorem vw_lst (x : SR K m H S) {v : V} {d : D} {xs : List D} (r : VR K m H v d) (e : vw S d = .lst xs) : ∃ a vs, v = .ref a ∧ SqL K H a vs ∧ VRs K m H vs xs := by
  cases r with
  | @lst a vs ds n h r => cases e; exact ⟨a, vs, rfl, .inl h, r⟩
  | @lstK a vs ds ob its n hk h1 h2 h3 h4 h5 r => cases e; exact ⟨a, vs, rfl, .inr ⟨ob, its, n, hk, h1, h2, h3, h4, h5⟩, r⟩
  | @ref i a h =>
    dsimp only [vw] at e
    cases q : S[i]? with
    | none => rw [q] at e; cases e
    | some ob =>
      have z := x.at_ i a ob h q
      rw [q] at e
      cases z with
      | lst h r => cases e; exact ⟨a, _, rfl, SqL.of h, r⟩
      | dct _ _ => cases e
      | dctT _ _ => cases e
      | ins _ _ => cases e
  | _ => cases e
theorem vw_tup {v : V} {d : D} {xs : List D} (r : VR K m H v d) (e : vw S d = .tup xs) : ∃ a vs, v = .ref a ∧ H a = some (.tup vs) ∧ VRs K m H vs xs := by
  cases r with
  | @tup a vs ds h r => cases e; exact ⟨a, vs, rfl, h, r⟩
  | @ref i a h =>
    dsimp only [vw] at e
    cases q : S[i]? with
    | none => rw [q] at e; cases e
    | some ob => rw [q] at e; cases ob <;> cases e
  | _ => cases e
theorem vw_int {v : V} {d : D} {i : Int} (r : VR K m H v d) (e : vw S d = .int i) : v = .int i := by
  cases r with
  | int j => cases e; rfl
  | @ref i a h =>
    dsimp only [vw] at e
    cases q : S[i]? with
    | none => rw [q] at e; cases e
    | some ob => rw [q] at e; cases ob <;> cases e
  | _ => cases e
theorem vw_str {v : V} {d : D} {i : Str} (r : VR K m H v d) (e : vw S d = .str i) : v = .str i := by
  cases r with
  | str j => cases e; rfl
  | @ref i a h =>
    dsimp only [vw] at e
    cases q : S[i]? with
    | none => rw [q] at e; cases e
    | some ob => rw [q] at e; cases ob <;> cases e
  | _ => cases e
theorem vw_bl {v : V} {d : D} {i : Bool} (r : VR K m H v d) (e : vw S d = .bl i) : v = .bl i := by
  cases r with
  | bl j => cases e; rfl
  | @ref i a h =>
    dsimp only [vw] at e
    cases q : S[i]? with
    | none => rw [q] at e; cases e
    | some ob => rw [q] at e; cases ob <;> cases e
  | _ => cases e
theorem vw_obj (x : SR K m H S) {v : V} {d : D} {C : Addr} {gs : List (Str × D)} (r : VR K m H v d) (e : vw S d = .obj C gs) : ∃ a dx fs, v = .ref a ∧ H a = some (.ins C dx fs) ∧ VFs K m H fs gs := by
  cases r with
  | @obj a C dx fs gs n h r => cases e; exact ⟨a, dx, fs, rfl, h, r⟩
  | @ref i a h =>
    dsimp only [vw] at e
    cases q : S[i]? with
    | none => rw [q] at e; cases e
    | some ob =>
      have z := x.at_ i a ob h q
      rw [q] at e
      cases z with
      | ins h r => cases e; exact ⟨a, _, _, rfl, h, r⟩
      | dct _ _ => cases e
      | dctT _ _ => cases e
      | lst _ _ => cases e
  | _ => cases e
end

/-! ### rules by values -/
abbrev G2 := Sto → D → D → Option D
/-- an operation on two values; the store stays -/
structure OpL (X : Cx) (f : Value → Value → Sem Value) (g : G2) : Prop where
  run : ∀ (pins : List (Addr × Obj)) (s : Shared) (σ : L2.St) (H : Hp) (m : List Addr) (S : Sto) (x y : V) (dx dy d : D) (v u : Value), Inv X pins σ H s → SR X.K m H S → VR X.K m H x dx → VR X.K m H y dy → RelV x v → RelV y u → g S dx dy = some d →
    wpAny (model X.prog X.w) X.A (f v u) (VP X pins σ m H d S) X.xe s
theorem vp_of {X : Cx} {pins : List (Addr × Obj)} {σ : L2.St} {m : List Addr} {H : Hp} {S : Sto} {d : D} {u : Value} {s' : Shared} (h : EP X pins σ (QV X.K m H S d) u s') : VP X pins σ m H d S u s' := by
  obtain ⟨v, H', I, r, m', e, q, w⟩ := h
  exact ⟨v, H', m', I, r, e, q, w⟩
theorem OpL.of {X : Cx} {f : Value → Value → Sem Value} {r : R2} {g : G2} (h : OpR X f r)
    (hg : ∀ (H : Hp) (m : List Addr) (S : Sto) (x y : V) (dx dy d : D), SR X.K m H S → VR X.K m H x dx → VR X.K m H y dy → g S dx dy = some d → r x y H (QV X.K m H S d)) : OpL X f g :=
  ⟨fun pins s σ H m S x y dx dy d v u I q rx ry ex ey e => thn (h pins s σ H x y v u _ I ex ey (hg H m S x y dx dy d q rx ry e)) fun _ _ z => vp_of z⟩
theorem OpL.or {X : Cx} {f : Value → Value → Sem Value} {g g' : G2} (h : OpL X f g) (h' : OpL X f g') : OpL X f (fun S x y => (g S x y).or (g' S x y)) :=
  ⟨fun pins s σ H m S x y dx dy d v u I q rx ry ex ey e => by
    cases z : g S dx dy with
    | some d' =>
      rw [z] at e
      cases e
      exact h.run pins s σ H m S x y dx dy _ v u I q rx ry ex ey z
    | none =>
      rw [z] at e
      exact h'.run pins s σ H m S x y dx dy _ v u I q rx ry ex ey e⟩

def g2I (f : Int → Int → Option D) : G2 := fun S x y => match vw S x, vw S y with
  | .int i, .int j => f i j
  | _, _ => none
def g2S (f : Str → Str → Option D) : G2 := fun S x y => match vw S x, vw S y with
  | .str i, .str j => f i j
  | _, _ => none
def g2T (f : List D → List D → Option D) : G2 := fun S x y => match vw S x, vw S y with
  | .tup i, .tup j => f i j
  | _, _ => none
def g2L (f : List D → List D → Option D) : G2 := fun S x y => match vw S x, vw S y with
  | .lst i, .lst j => f i j
  | _, _ => none
theorem g2I_inv {f : Int → Int → Option D} {S : Sto} {x y d : D} (h : g2I f S x y = some d) : ∃ i j, vw S x = .int i ∧ vw S y = .int j ∧ f i j = some d := by
  unfold g2I at h
  split at h
  · exact ⟨_, _, ‹_›, ‹_›, h⟩
  · cases h
theorem g2S_inv {f : Str → Str → Option D} {S : Sto} {x y d : D} (h : g2S f S x y = some d) : ∃ i j, vw S x = .str i ∧ vw S y = .str j ∧ f i j = some d := by
  unfold g2S at h
  split at h
  · exact ⟨_, _, ‹_›, ‹_›, h⟩
  · cases h
theorem g2T_inv {f : List D → List D → Option D} {S : Sto} {x y d : D} (h : g2T f S x y = some d) : ∃ i j, vw S x = .tup i ∧ vw S y = .tup j ∧ f i j = some d := by
  unfold g2T at h
  split at h
  · exact ⟨_, _, ‹_›, ‹_›, h⟩
  · cases h
theorem g2L_inv {f : List D → List D → Option D} {S : Sto} {x y d : D} (h : g2L f S x y = some d) : ∃ i j, vw S x = .lst i ∧ vw S y = .lst j ∧ f i j = some d := by
  unfold g2L at h
  split at h
  · exact ⟨_, _, ‹_›, ‹_›, h⟩
  · cases h
section
variable {X : Cx}
/-- ints, under a condition -/
theorem opl_int {f : Value → Value → Sem Value} {C : Int → Int → Prop} {g : Int → Int → V} {g' : Int → Int → Option D} (h : OpR X f (rI C g)) (hg : ∀ i j d, g' i j = some d → C i j ∧ ∀ K m H, VR K m H (g i j) d) : OpL X f (g2I g') :=
  .of h fun H m S x y dx dy d q rx ry e => by
    obtain ⟨i, j, e1, e2, e3⟩ := g2I_inv e
    obtain ⟨c, z⟩ := hg i j d e3
    exact ⟨i, j, vw_int rx e1, vw_int ry e2, c, qv_same q (z _ _ _)⟩
theorem opl_int0 {f : Value → Value → Sem Value} {g : Int → Int → V} {g' : Int → Int → D} (h : OpR X f (rI0 g)) (hg : ∀ i j K m H, VR K m H (g i j) (g' i j)) : OpL X f (g2I fun i j => some (g' i j)) :=
  .of h fun H m S x y dx dy d q rx ry e => by
    obtain ⟨i, j, e1, e2, e3⟩ := g2I_inv e
    cases e3
    exact ⟨i, j, vw_int rx e1, vw_int ry e2, qv_same q (hg _ _ _ _ _)⟩

def gCat : G2 := g2T fun a b => if a.length + b.length ≤ sizeLine then some (.tup (a ++ b)) else none
def gCatL : G2 := g2L fun a b => if a.length + b.length ≤ sizeLine then some (.lst (a ++ b)) else none
def gAddI : G2 := g2I fun i j => some (.int (i + j))
def gAddS : G2 := g2S fun a b => if a.length + b.length ≤ sizeLine then some (.str (a ++ b)) else none
theorem opl_addI : OpL X (binaryOp .Add) gAddI := opl_int0 op_add fun i j _ _ _ => .int _
theorem opl_addS : OpL X (binaryOp .Add) gAddS := .of op_add_str fun H m S x y dx dy d q rx ry e => by
  obtain ⟨i, j, e1, e2, e3⟩ := g2S_inv e
  split at e3
  · cases e3
    exact ⟨i, j, vw_str rx e1, vw_str ry e2, ‹_›, qv_same q (.str _)⟩
  · cases e3
theorem VRs.nil_iff {K : PySem.W.Frag} {m : List Addr} {H : Hp} {vs : List V} {ds : List D} (r : VRs K m H vs ds) : vs = [] ↔ ds = [] := by
  cases r <;> simp
theorem opl_catT : OpL X (binaryOp .Add) gCat := .of op_catA fun H m S x y dx dy d q rx ry e => by
  obtain ⟨i, j, e1, e2, e3⟩ := g2T_inv e
  split at e3
  · cases e3
    obtain ⟨a, xs, rfl, ha, r1⟩ := vw_tup rx e1
    obtain ⟨b, ys, rfl, hb, r2⟩ := vw_tup ry e2
    refine ⟨a, b, xs, ys, rfl, rfl, SqT.of ha, SqT.of hb, by rw [r1.length, r2.length]; assumption, ?_⟩
    refine ⟨fun z => ?_, fun z z' => ?_, fun z z' p hp => ?_⟩
    · have z1 := r1.nil_iff.mp z
      subst z1
      exact qv_same q (.tup hb (by simpa using r2))
    · have z1 := r2.nil_iff.mp z'
      subst z1
      exact qv_same q (.tup ha (by simpa using r1))
    · exact qv_new q hp (vr_newTup q hp (r1.append r2))
  · cases e3
end
end MP

namespace MP
open PySem PySem.Spec PyProof.Rows L2

section
variable {X : Cx} {pins : List (Addr × Obj)} {σ : L2.St} {m m1 : List Addr} {H H1 : Hp} {ρ : Ev} {S S1 : Sto} {s : Shared}
theorem VPr.left {r : R D} {u : Value} {s' : Shared} (e : Ext m H m1 H1) (h : VPr X pins σ m1 H1 r u s') : VPr X pins σ m H r u s' := by
  obtain ⟨d, S', q, v, H', m', I, rv, e', x, w⟩ := h
  exact ⟨d, S', q, v, H', m', I, rv, e.trans e', x, w⟩
theorem TPr.left {r : R Bool} {u : Bool} {s' : Shared} (e : Ext m H m1 H1) (h : TPr X pins σ m1 H1 r u s') : TPr X pins σ m H r u s' := by
  obtain ⟨S', H', m', q, I, e', x⟩ := h
  exact ⟨S', H', m', q, I, e.trans e', x⟩
theorem APr.left {r : R (List D)} {u : List Value} {s' : Shared} (e : Ext m H m1 H1) (h : APr X pins σ m1 H1 r u s') : APr X pins σ m H r u s' := by
  obtain ⟨ds, S', vs, H', m', q, I, rv, e', x, w⟩ := h
  exact ⟨ds, S', vs, H', m', q, I, rv, e.trans e', x, w⟩
theorem vpr_of {d : D} {S' : Sto} {u : Value} {s' : Shared} (h : VP X pins σ m H d S' u s') : VPr X pins σ m H (.ok d S') u s' := ⟨d, S', rfl, h⟩

/-- an expression, then what goes on -/
theorem run_seq {α : Type} {e : Expr} {l : LE} (h : PEL X e l) (I : Inv X pins σ H s) (x : SR X.K m H S) (r : ER X.K m H σ ρ) {f : D → Sto → R α} (hp : Hope X σ m H ((l ρ S).bind f)) {Q : Value → Shared → Prop}
    (k : ∀ d S1, l ρ S = .ok d S1 → ∀ v u s1 H1 m1, Inv X pins σ H1 s1 → RelV v u → Ext m H m1 H1 → SR X.K m1 H1 S1 → VR X.K m1 H1 v d → ER X.K m1 H1 σ ρ → Hope X σ m1 H1 (f d S1) → Q u s1) :
    wpAny (model X.prog X.w) X.A (eval e X.env) Q X.xe s := by
  cases q : l ρ S with
  | bad => rw [q] at hp; exact absurd rfl hp.1
  | exc C fs S' =>
    rw [q] at hp
    have z := h.run pins s σ H m ρ S I x r (by rw [q]; exact hp.exc)
    rw [q] at z
    exact thn z fun u s' ⟨d, S2, e, _⟩ => nomatch e
  | ok d S1 =>
    rw [q] at hp
    have z := h.run pins s σ H m ρ S I x r (by rw [q]; exact Hope.ok)
    rw [q] at z
    refine thn z fun u s1 ⟨d', S2, e, v, H1, m1, I1, rv, ex, x1, w⟩ => ?_
    cases e
    exact k d S1 q v u s1 H1 m1 I1 rv ex x1 w (r.ext ex x.muts) (Hope.ext hp ex)
theorem run_seqT {α : Type} {e : Expr} {l : LT} (h : PTL X e l) (I : Inv X pins σ H s) (x : SR X.K m H S) (r : ER X.K m H σ ρ) {f : Bool → Sto → R α} (hp : Hope X σ m H ((l ρ S).bind f)) {Q : Bool → Shared → Prop}
    (k : ∀ b S1, l ρ S = .ok b S1 → ∀ s1 H1 m1, Inv X pins σ H1 s1 → Ext m H m1 H1 → SR X.K m1 H1 S1 → ER X.K m1 H1 σ ρ → Hope X σ m1 H1 (f b S1) → Q b s1) :
    wpAny (model X.prog X.w) X.A (isTrue e X.env (eval e X.env)) Q X.xe s := by
  cases q : l ρ S with
  | bad => rw [q] at hp; exact absurd rfl hp.1
  | exc C fs S' =>
    rw [q] at hp
    have z := h.run pins s σ H m ρ S I x r (by rw [q]; exact hp.exc)
    rw [q] at z
    exact thn z fun u s' ⟨S2, H', m', e, _⟩ => nomatch e
  | ok d S1 =>
    rw [q] at hp
    have z := h.run pins s σ H m ρ S I x r (by rw [q]; exact Hope.ok)
    rw [q] at z
    refine thn z fun u s1 ⟨S2, H1, m1, e, I1, ex, x1⟩ => ?_
    cases e
    exact k d S1 q s1 H1 m1 I1 ex x1 (r.ext ex x.muts) (Hope.ext hp ex)
theorem run_seqA {α : Type} {es : List Expr} {l : LA} {pos : Pos} (h : PAL X es l) (I : Inv X pins σ H s) (x : SR X.K m H S) (r : ER X.K m H σ ρ) {f : List D → Sto → R α} (hp : Hope X σ m H ((l ρ S).bind f)) {Q : List Value → Shared → Prop}
    (k : ∀ ds S1, l ρ S = .ok ds S1 → ∀ vs us s1 H1 m1, Inv X pins σ H1 s1 → Vals vs us → Ext m H m1 H1 → SR X.K m1 H1 S1 → VRs X.K m1 H1 vs ds → ER X.K m1 H1 σ ρ → Hope X σ m1 H1 (f ds S1) → Q us s1) :
    wpAny (model X.prog X.w) X.A (spliced (backTo pos (starEach es X.env))) Q X.xe s := by
  cases q : l ρ S with
  | bad => rw [q] at hp; exact absurd rfl hp.1
  | exc C fs S' =>
    rw [q] at hp
    have z := h.run pos pins s σ H m ρ S I x r (by rw [q]; exact hp.exc)
    rw [q] at z
    exact thn z fun u s' ⟨ds, S2, vs, H', m', e, _⟩ => nomatch e
  | ok d S1 =>
    rw [q] at hp
    have z := h.run pos pins s σ H m ρ S I x r (by rw [q]; exact Hope.ok)
    rw [q] at z
    refine thn z fun u s1 ⟨ds, S2, vs, H1, m1, e, I1, rv, ex, x1, w⟩ => ?_
    cases e
    exact k d S1 q vs u s1 H1 m1 I1 rv ex x1 w (r.ext ex x.muts) (Hope.ext hp ex)
end

section
variable {X : Cx} {a b c e : Expr} {la lb lc l : LE} {pos : Pos}
def lVar (i : Nat) : LE := fun ρ S => match ρ[i]? with
  | some (some d) => .ok d S
  | _ => .bad
theorem pel_var {i : Nat} {x : Str} (hN : X.N[i]? = some x := by rfl) (hv : Vis X.env.scope x := by first | exact Or.inl rfl | exact Or.inr (Or.inl rfl) | exact Or.inr (Or.inr rfl)) (hd : (x == ("__debug__" : Str)) = false := by decide) (hcd : (x == ("__classdict__" : Str)) = false := by decide) :
    PEL X (.Name x pos) (lVar i) := by
  refine ⟨fun pins s σ H m ρ S I x r hp => ?_⟩
  unfold lVar at hp ⊢
  split at hp
  · rename_i d e
    obtain ⟨v, h1, h2⟩ := r.at_ i d e
    exact thn ((pe_var hN hv hd hcd).run pins s σ H (QV X.K m H S d) I ⟨v, h1, qv_same x h2⟩) fun u s' q => vpr_of (vp_of q)
  · exact absurd rfl hp.1
/-- an expression of the layer whose value is known -/
def lC (d : D) : LE := fun _ S => .ok d S
theorem pel_c {v : V} {d : D} (h : PE X e (tC v)) (hv : ∀ K m H, VR K m H v d) : PEL X e (lC d) :=
  ⟨fun pins s σ H m ρ S I x r hp => thn (h.run pins s σ H (QV X.K m H S d) I (qv_same x (hv _ _ _))) fun u s' q => vpr_of (vp_of q)⟩
theorem pel_int {i : Int} {j : Nat} : PEL X (.Constant (.int i) j pos) (lC (.int i)) := pel_c pe_int fun _ _ _ => .int i
theorem pel_bl {i : Bool} {j : Nat} : PEL X (.Constant (.bool i) j pos) (lC (.bl i)) := pel_c pe_bl fun _ _ _ => .bl i
theorem pel_non {j : Nat} : PEL X (.Constant .none j pos) (lC .non) := pel_c pe_non fun _ _ _ => .non
theorem pel_str {i : Str} {j : Nat} : PEL X (.Constant (.str i) j pos) (lC (.str i)) := pel_c pe_str fun _ _ _ => .str i
/-- a module's constant -/
theorem pel_gint {x : Str} {i : Int} {t : Tok} (hg : Gl X x) (hm : X.mg x = some (.int i t)) (hd : (x == ("__debug__" : Str)) = false := by decide) : PEL X (.Name x pos) (lC (.int i)) := pel_c (pe_glob hg hm (v := .int i) ⟨_, rfl⟩ hd) fun _ _ _ => .int i
theorem pel_gstr {x i : Str} {t : Tok} (hg : Gl X x) (hm : X.mg x = some (.str i t)) (hd : (x == ("__debug__" : Str)) = false := by decide) : PEL X (.Name x pos) (lC (.str i)) := pel_c (pe_glob hg hm (v := .str i) ⟨_, rfl⟩ hd) fun _ _ _ => .str i

def lift1 (o : Option D) (S : Sto) : R D := match o with
  | some d => .ok d S
  | none => .bad
def lBin (g : G2) (la lb : LE) : LE := fun ρ S => (la ρ S).bind fun x S1 => (lb ρ S1).bind fun y S2 => lift1 (g S2 x y) S2
theorem lift_ok {o : Option D} {S : Sto} {X : Cx} {σ : L2.St} {m : List Addr} {H : Hp} (h : Hope X σ m H (lift1 o S)) : ∃ d, o = some d := by
  cases o with
  | none => exact absurd rfl h.1
  | some d => exact ⟨d, rfl⟩
theorem run_bin {g : G2} {f : Value → Value → Sem Value} (ha : PEL X a la) (hb : PEL X b lb) (ho : OpL X f g) {pins : List (Addr × Obj)} {s : Shared} {σ : L2.St} {H : Hp} {m : List Addr} {ρ : Ev} {S : Sto} (I : Inv X pins σ H s) (x : SR X.K m H S) (r : ER X.K m H σ ρ) (hp : Hope X σ m H (lBin g la lb ρ S)) :
    wpAny (model X.prog X.w) X.A (eval a X.env) (fun v s₁ => wpAny (model X.prog X.w) X.A (eval b X.env) (fun u s₂ => wpAny (model X.prog X.w) X.A (f v u) (VPr X pins σ m H (lBin g la lb ρ S)) X.xe s₂) X.xe s₁) X.xe s := by
  refine run_seq ha I x r hp fun dx S1 q1 v u s1 H1 m1 I1 rv e1 x1 w1 r1 hp1 => ?_
  refine run_seq hb I1 x1 r1 hp1 fun dy S2 q2 v2 u2 s2 H2 m2 I2 rv2 e2 x2 w2 r2 hp2 => ?_
  obtain ⟨d, q3⟩ := lift_ok hp2
  have e : lBin g la lb ρ S = .ok d S2 := by
    unfold lBin; rw [q1, bind_ok, q2, bind_ok, q3]; rfl
  rw [e]
  exact thn (ho.run pins s2 σ H2 m2 S2 v v2 dx dy d u u2 I2 x2 (w1.ext e2 x1.muts) w2 rv rv2 q3) fun _ _ z => (vpr_of z).left (e1.trans e2)
theorem pel_op {op : Operator} {g : G2} (ho : OpL X (binaryOp op) g) (ha : PEL X a la) (hb : PEL X b lb) : PEL X (.BinOp a op b pos) (lBin g la lb) :=
  ⟨fun pins s σ H m ρ S I x r hp => wpAny_BinOp (run_bin ha hb ho I x r hp)⟩
theorem pel_cmp {op : CmpOp} {g : G2} (ho : OpL X (compareOp op) g) (ha : PEL X a la) (hb : PEL X b lb) (hm : behindInMarks op b = false := by first | exact nobehind _ (by decide) (by decide) | rfl) : PEL X (.Compare a [op] [b] pos) (lBin g la lb) :=
  ⟨fun pins s σ H m ρ S I x r hp => wpAny_Compare1 (run_bin ha hb ho I x r hp) hm⟩
/-- a one-place operation -/
structure UnL (X : Cx) (f : Value → Sem Value) (g : Sto → D → Option D) : Prop where
  run : ∀ (pins : List (Addr × Obj)) (s : Shared) (σ : L2.St) (H : Hp) (m : List Addr) (S : Sto) (x : V) (dx d : D) (v : Value), Inv X pins σ H s → SR X.K m H S → VR X.K m H x dx → RelV x v → g S dx = some d →
    wpAny (model X.prog X.w) X.A (f v) (VP X pins σ m H d S) X.xe s
def lUn (g : Sto → D → Option D) (la : LE) : LE := fun ρ S => (la ρ S).bind fun x S1 => lift1 (g S1 x) S1
theorem pel_un {op : UnaryOp} {g : Sto → D → Option D} (ho : UnL X (unaryOp op) g) (ha : PEL X a la) : PEL X (.UnaryOp op a pos) (lUn g la) := by
  refine ⟨fun pins s σ H m ρ S I x r hp => ?_⟩
  refine UnaryOp_ (run_seq ha I x r hp fun dx S1 q1 v u s1 H1 m1 I1 rv e1 x1 w1 r1 hp1 => ?_)
  obtain ⟨d, q3⟩ := lift_ok hp1
  have e : lUn g la ρ S = .ok d S1 := by
    unfold lUn; rw [q1, bind_ok, q3]; rfl
  rw [e]
  exact thn (ho.run pins s1 σ H1 m1 S1 v dx d u I1 x1 w1 rv q3) fun _ _ z => (vpr_of z).left e1
def gNeg (S : Sto) : D → Option D
  | .int i => some (.int (-i))
  | _ => none
theorem unl_neg : UnL X (unaryOp .USub) gNeg := ⟨fun pins s σ H m S x dx d v I q rx ev e => by
  cases rx with
  | int i => cases e; exact thn (un_neg pins s σ H _ v _ I ev ⟨i, rfl, qv_same q (.int _)⟩) fun _ _ z => vp_of z
  | _ => cases e⟩

/-! ### tests -/
/-- truth of a value -/
def truth (S : Sto) (d : D) : Option Bool := match vw S d with
  | .non => some false
  | .bl b => some b
  | .int i => some (i != 0)
  | .str s => if s.length ≤ sizeLine then some ((s.length : Int) != 0) else none
  | .tup xs => some (!xs.isEmpty)
  | .lst xs => some (!xs.isEmpty)
  | _ => none
theorem tru_of {K : PySem.W.Frag} {m : List Addr} {H : Hp} {S : Sto} {v : V} {d : D} {k : Bool} (x : SR K m H S) (r : VR K m H v d) (h : truth S d = some k) : TruV K v H k := by
  unfold truth at h
  split at h
  · rename_i e
    have : v = .non := by
      cases r with
      | non => rfl
      | @ref i a h' =>
        dsimp only [vw] at e
        cases q : S[i]? with
        | none => rw [q] at e; cases e
        | some ob => rw [q] at e; cases ob <;> cases e
      | _ => cases e
    subst this; cases h; rfl
  · rename_i b e
    rw [vw_bl r e]; cases h; rfl
  · rename_i b e
    rw [vw_int r e]; cases h; rfl
  · rename_i b e
    rw [vw_str r e]
    split at h
    · cases h; exact ⟨‹_›, rfl⟩
    · cases h
  · rename_i b e
    obtain ⟨a, vs, rfl, h1, h2⟩ := vw_tup r e
    cases h
    exact .inr (.inl ⟨vs, SqT.of h1, by cases h2 <;> rfl⟩)
  · rename_i b e
    obtain ⟨a, vs, rfl, h1, h2⟩ := vw_lst x r e
    cases h
    exact .inl ⟨vs, h1, by cases h2 <;> rfl⟩
  · cases h
def liftB (o : Option Bool) (S : Sto) : R Bool := match o with
  | some d => .ok d S
  | none => .bad
def tTru (l : LE) : LT := fun ρ S => (l ρ S).bind fun d S1 => liftB (truth S1 d) S1
theorem liftB_ok {o : Option Bool} {S : Sto} {X : Cx} {σ : L2.St} {m : List Addr} {H : Hp} (h : Hope X σ m H (liftB o S)) : ∃ d, o = some d := by
  cases o with
  | none => exact absurd rfl h.1
  | some d => exact ⟨d, rfl⟩
theorem tru_run {pins : List (Addr × Obj)} {s s1 : Shared} {σ : L2.St} {H H1 : Hp} {m m1 : List Addr} {ρ : Ev} {S S1 : Sto} {d : D} {v : V} {u : Value} (q1 : l ρ S = .ok d S1) (I1 : Inv X pins σ H1 s1) (rv : RelV v u) (e1 : Ext m H m1 H1) (x1 : SR X.K m1 H1 S1) (w1 : VR X.K m1 H1 v d) (hp1 : Hope X σ m1 H1 (liftB (truth S1 d) S1)) :
    wpAny (model X.prog X.w) X.A (truthy u) (TPr X pins σ m H (tTru l ρ S)) X.xe s1 := by
  obtain ⟨b, q3⟩ := liftB_ok hp1
  have e : tTru l ρ S = .ok b S1 := by
    unfold tTru; rw [q1, bind_ok, q3]; rfl
  rw [e]
  refine thn (tru_ok pins s1 σ H1 v u (fun c H' => c = b ∧ H' = H1) I1 rv ⟨b, tru_of x1 w1 q3, rfl, rfl⟩) fun c s2 ⟨H2, I2, ec, eh⟩ => ?_
  subst ec eh
  exact ⟨S1, H2, m1, rfl, I2, e1, x1⟩
theorem ptl_truth (ha : PEL X a l) (he : ∀ whole, isTrue a X.env whole = (do let v ← whole; standAt a.pos; holding [v] (truthy v)) := by intro _; rfl) : PTL X a (tTru l) :=
  ⟨fun pins s σ H m ρ S I x r hp => isTrue_plain (run_seq ha I x r hp fun d S1 q1 v u s1 H1 m1 I1 rv e1 x1 w1 r1 hp1 => tru_run (s := s) q1 I1 rv e1 x1 w1 hp1) (he _)⟩
theorem ptl_cmp {op : CmpOp} {g : G2} (ho : OpL X (compareOp op) g) (ha : PEL X a la) (hb : PEL X b lb) (hm : behindInMarks op b = false := by first | exact nobehind _ (by decide) (by decide) | rfl) : PTL X (.Compare a [op] [b] pos) (tTru (lBin g la lb)) := by
  refine ⟨fun pins s σ H m ρ S I x r hp => ?_⟩
  have hp0 : Hope X σ m H (lBin g la lb ρ S) := by
    unfold tTru at hp
    cases q : lBin g la lb ρ S with
    | bad => rw [q] at hp; exact absurd rfl hp.1
    | exc C fs S' => rw [q] at hp; exact hp.exc
    | ok d S1 => exact Hope.ok
  refine wpAny_isTrue_Compare1 (thn (run_bin ha hb ho I x r hp0) fun v s1 h1 => thn h1 fun u s2 h2 => thn h2 fun w s3 ⟨d, S3, q, v3, H3, m3, I3, rv, e3, x3, w3⟩ => ?_) hm
  refine tru_run (s := s) q I3 rv e3 x3 w3 ?_
  unfold tTru at hp
  rw [q, bind_ok] at hp
  exact hp.ext e3
/-- and, or, not in tests -/
structure PWL (X : Cx) (e : Expr) (l : LT) : Prop where
  run : ∀ (whole : Sem Value) (pins : List (Addr × Obj)) (s : Shared) (σ : L2.St) (H : Hp) (m : List Addr) (ρ : Ev) (S : Sto), Inv X pins σ H s → SR X.K m H S → ER X.K m H σ ρ → Hope X σ m H (l ρ S) →
    wpAny (model X.prog X.w) X.A (isTrue e X.env whole) (TPr X pins σ m H (l ρ S)) X.xe s
theorem PWL.pt {l : LT} (h : PWL X e l) : PTL X e l := ⟨h.run _⟩
variable {ta tb tc : LT} {rest : List Expr}
def tAnd (ta tb : LT) : LT := fun ρ S => (ta ρ S).bind fun b S1 => if b = true then tb ρ S1 else .ok false S1
def tOr (ta tb : LT) : LT := fun ρ S => (ta ρ S).bind fun b S1 => if b = true then .ok true S1 else tb ρ S1
def tNot (ta : LT) : LT := fun ρ S => (ta ρ S).bind fun b S1 => .ok (!b) S1
theorem tpr_ok {pins : List (Addr × Obj)} {σ : L2.St} {H H1 : Hp} {m m1 : List Addr} {S1 : Sto} {b : Bool} {s1 : Shared} {r : R Bool} (I1 : Inv X pins σ H1 s1) (e1 : Ext m H m1 H1) (x1 : SR X.K m1 H1 S1) (q : r = .ok b S1) : TPr X pins σ m H r b s1 := ⟨S1, H1, m1, q, I1, e1, x1⟩
theorem pwl_and1 (ha : PTL X a ta) : PWL X (.BoolOp .And [a] pos) ta := by
  refine ⟨fun wh pins s σ H m ρ S I x r hp => ?_⟩
  refine isTrue_and (thn (ha.run pins s σ H m ρ S I x r hp) fun c s1 e => ?_)
  cases c with
  | true => exact isTrue_and_nil e
  | false => exact e
theorem pwl_or1 (ha : PTL X a ta) : PWL X (.BoolOp .Or [a] pos) ta := by
  refine ⟨fun wh pins s σ H m ρ S I x r hp => ?_⟩
  refine isTrue_or (thn (ha.run pins s σ H m ρ S I x r hp) fun c s1 e => ?_)
  cases c with
  | false => exact isTrue_or_nil e
  | true => exact e
theorem pwl_and (ha : PTL X a ta) (hb : PWL X (.BoolOp .And (b :: rest) pos) tb) : PWL X (.BoolOp .And (a :: b :: rest) pos) (tAnd ta tb) := by
  refine ⟨fun wh pins s σ H m ρ S I x r hp => ?_⟩
  refine isTrue_and (run_seqT ha I x r hp fun c S1 q1 s1 H1 m1 I1 e1 x1 r1 hp1 => ?_)
  cases c with
  | true =>
    have e : tAnd ta tb ρ S = tb ρ S1 := by unfold tAnd; rw [q1]; rfl
    rw [e]
    exact thn (hb.run wh pins s1 σ H1 m1 ρ S1 I1 x1 r1 hp1) fun _ _ z => z.left e1
  | false => exact tpr_ok I1 e1 x1 (by unfold tAnd; rw [q1]; rfl)
theorem pwl_or (ha : PTL X a ta) (hb : PWL X (.BoolOp .Or (b :: rest) pos) tb) : PWL X (.BoolOp .Or (a :: b :: rest) pos) (tOr ta tb) := by
  refine ⟨fun wh pins s σ H m ρ S I x r hp => ?_⟩
  refine isTrue_or (run_seqT ha I x r hp fun c S1 q1 s1 H1 m1 I1 e1 x1 r1 hp1 => ?_)
  cases c with
  | false =>
    have e : tOr ta tb ρ S = tb ρ S1 := by unfold tOr; rw [q1]; rfl
    rw [e]
    exact thn (hb.run wh pins s1 σ H1 m1 ρ S1 I1 x1 r1 hp1) fun _ _ z => z.left e1
  | true => exact tpr_ok I1 e1 x1 (by unfold tOr; rw [q1]; rfl)
theorem ptl_not (ha : PTL X a ta) : PTL X (.UnaryOp .Not a pos) (tNot ta) := by
  refine ⟨fun pins s σ H m ρ S I x r hp => ?_⟩
  refine isTrue_not (run_seqT ha I x r hp fun c S1 q1 s1 H1 m1 I1 e1 x1 r1 hp1 => ?_)
  exact tpr_ok I1 e1 x1 (by unfold tNot; rw [q1, bind_ok])
end
end MP

namespace MP
open PySem PySem.Spec PyProof.Rows L2

section
variable {X : Cx} {a b c e o : Expr} {la lb lc l lo : LE} {pos : Pos} {es rest : List Expr} {t : LA} {tc : LT}
/-! ### and, or, not, if .. else as values -/
def lAndV (la lb : LE) : LE := fun ρ S => (la ρ S).bind fun d S1 => (liftB (truth S1 d) S1).bind fun k S2 => if k = true then lb ρ S2 else .ok d S2
def lOrV (la lb : LE) : LE := fun ρ S => (la ρ S).bind fun d S1 => (liftB (truth S1 d) S1).bind fun k S2 => if k = true then .ok d S2 else lb ρ S2
def lNotV (la : LE) : LE := fun ρ S => (la ρ S).bind fun d S1 => (liftB (truth S1 d) S1).bind fun k S2 => .ok (.bl (!k)) S2
theorem pel_one {op : BoolOp} (h : PEL X a l) : PEL X (.BoolOp op [a] pos) l := ⟨fun pins s σ H m ρ S I x r hp => BoolOp_one (h.run pins s σ H m ρ S I x r hp)⟩
theorem bind_liftB {α : Type} {ob : Option Bool} {S : Sto} {f : Bool → Sto → R α} {X : Cx} {σ : L2.St} {m : List Addr} {H : Hp} (h : Hope X σ m H ((liftB ob S).bind f)) : ∃ k, ob = some k := by
  cases ob with
  | none => exact absurd rfl h.1
  | some k => exact ⟨k, rfl⟩
theorem tru_step {pins : List (Addr × Obj)} {s1 : Shared} {σ : L2.St} {H1 : Hp} {m1 : List Addr} {S1 : Sto} {d : D} {v : V} {u : Value} {k : Bool} (I1 : Inv X pins σ H1 s1) (rv : RelV v u) (x1 : SR X.K m1 H1 S1) (w1 : VR X.K m1 H1 v d) (hk : truth S1 d = some k) {Q : Bool → Shared → Prop}
    (h : ∀ s2, Inv X pins σ H1 s2 → Q k s2) : wpAny (model X.prog X.w) X.A (truthy u) Q X.xe s1 :=
  thn (tru_ok pins s1 σ H1 v u (fun c H' => c = k ∧ H' = H1) I1 rv ⟨k, tru_of x1 w1 hk, rfl, rfl⟩) fun c s2 ⟨H2, I2, ec, eh⟩ => by
    subst ec eh
    exact h s2 I2
theorem pel_and (ha : PEL X a la) (hb : PEL X (.BoolOp .And (b :: rest) pos) lb) : PEL X (.BoolOp .And (a :: b :: rest) pos) (lAndV la lb) := by
  refine ⟨fun pins s σ H m ρ S I x r hp => ?_⟩
  refine BoolOp_and (run_seq ha I x r hp fun d S1 q1 v u s1 H1 m1 I1 rv e1 x1 w1 r1 hp1 => ?_)
  obtain ⟨k, hk⟩ := bind_liftB hp1
  refine tru_step I1 rv x1 w1 hk fun s2 I2 => ?_
  have e0 : lAndV la lb ρ S = if k = true then lb ρ S1 else .ok d S1 := by unfold lAndV; rw [q1, bind_ok, hk]; rfl
  rw [hk] at hp1
  rw [e0]
  cases k with
  | true => exact thn (hb.run pins s2 σ H1 m1 ρ S1 I2 x1 r1 hp1) fun _ _ z => z.left e1
  | false => exact ⟨d, S1, rfl, v, H1, m1, I2, rv, e1, x1, w1⟩
theorem pel_or (ha : PEL X a la) (hb : PEL X (.BoolOp .Or (b :: rest) pos) lb) : PEL X (.BoolOp .Or (a :: b :: rest) pos) (lOrV la lb) := by
  refine ⟨fun pins s σ H m ρ S I x r hp => ?_⟩
  refine BoolOp_or (run_seq ha I x r hp fun d S1 q1 v u s1 H1 m1 I1 rv e1 x1 w1 r1 hp1 => ?_)
  obtain ⟨k, hk⟩ := bind_liftB hp1
  refine tru_step I1 rv x1 w1 hk fun s2 I2 => ?_
  have e0 : lOrV la lb ρ S = if k = true then .ok d S1 else lb ρ S1 := by unfold lOrV; rw [q1, bind_ok, hk]; rfl
  rw [hk] at hp1
  rw [e0]
  cases k with
  | false => exact thn (hb.run pins s2 σ H1 m1 ρ S1 I2 x1 r1 hp1) fun _ _ z => z.left e1
  | true => exact ⟨d, S1, rfl, v, H1, m1, I2, rv, e1, x1, w1⟩
theorem pel_not (ha : PEL X a la) : PEL X (.UnaryOp .Not a pos) (lNotV la) := by
  refine ⟨fun pins s σ H m ρ S I x r hp => ?_⟩
  refine UnaryOp_ (run_seq ha I x r hp fun d S1 q1 v u s1 H1 m1 I1 rv e1 x1 w1 r1 hp1 => ?_)
  obtain ⟨k, hk⟩ := bind_liftB hp1
  refine not_of (tru_step I1 rv x1 w1 hk fun s2 I2 => ?_)
  have e0 : lNotV la ρ S = .ok (.bl (!k)) S1 := by unfold lNotV; rw [q1, bind_ok, hk]; rfl
  rw [e0]
  exact ⟨_, S1, rfl, .bl (!k), H1, m1, I2, rfl, e1, x1, .bl _⟩
def lIf (t : LT) (la lb : LE) : LE := fun ρ S => (t ρ S).bind fun k S1 => if k = true then la ρ S1 else lb ρ S1
theorem pel_ifExp (hc : PTL X c tc) (ha : PEL X a la) (hb : PEL X b lb) : PEL X (.IfExp c a b pos) (lIf tc la lb) := by
  refine ⟨fun pins s σ H m ρ S I x r hp => ?_⟩
  refine wpAny_IfExp (run_seqT hc I x r hp fun k S1 q1 s1 H1 m1 I1 e1 x1 r1 hp1 => ?_)
  have e0 : lIf tc la lb ρ S = if k = true then la ρ S1 else lb ρ S1 := by unfold lIf; rw [q1]; rfl
  rw [e0]
  cases k with
  | true => exact thn (ha.run pins s1 σ H1 m1 ρ S1 I1 x1 r1 hp1) fun _ _ z => z.left e1
  | false => exact thn (hb.run pins s1 σ H1 m1 ρ S1 I1 x1 r1 hp1) fun _ _ z => z.left e1

/-! ### arguments, displays -/
def aNil : LA := fun _ S => .ok [] S
def aCons (la : LE) (t : LA) : LA := fun ρ S => (la ρ S).bind fun d S1 => (t ρ S1).bind fun ds S2 => .ok (d :: ds) S2
theorem pal_nil : PAL X [] aNil := ⟨fun pos pins s σ H m ρ S I x r hp => Calls.spliced_nil ⟨[], S, [], H, m, rfl, I, .nil, Ext.refl, x, .nil⟩⟩
theorem pal_cons (ha : PEL X e la) (hr : PAL X es t) (hs : starEach (e :: es) X.env = (false, eval e X.env) :: starEach es X.env := by rfl) : PAL X (e :: es) (aCons la t) := by
  refine ⟨fun pos pins s σ H m ρ S I x r hp => ?_⟩
  rw [hs]
  show wpAny _ _ (spliced ((false, eval e X.env) :: backTo pos (starEach es X.env))) _ _ s
  refine Calls.spliced_cons (run_seq ha I x r hp fun d S1 q1 v u s1 H1 m1 I1 rv e1 x1 w1 r1 hp1 => ?_)
  refine run_seqA hr I1 x1 r1 hp1 fun ds S2 q2 vs us s2 H2 m2 I2 rvs e2 x2 w2 r2 hp2 => ?_
  exact ⟨d :: ds, S2, v :: vs, H2, m2, by unfold aCons; rw [q1, bind_ok, q2, bind_ok], I2, .cons rv rvs, e1.trans e2, x2, .cons (w1.ext e2 x1.muts) w2⟩
def lTup (t : LA) : LE := fun ρ S => (t ρ S).bind fun ds S1 => if ds.length ≤ sizeLine then .ok (.tup ds) S1 else .bad
def lLst (t : LA) : LE := fun ρ S => (t ρ S).bind fun ds S1 => if ds.length ≤ sizeLine then .ok (.lst ds) S1 else .bad
/-- a list that is put into the store -/
def lLstN (t : LA) : LE := fun ρ S => (t ρ S).bind fun ds S1 => if ds.length ≤ sizeLine then .ok (.ref S1.length) (S1 ++ [.lst ds]) else .bad
theorem hope_if {α : Type} {p : Prop} [Decidable p] {r : R α} {X : Cx} {σ : L2.St} {m : List Addr} {H : Hp} (h : Hope X σ m H (if p then r else .bad)) : p := by
  by_cases q : p
  · exact q
  · rw [if_neg q] at h; exact absurd rfl h.1
theorem pel_tup {x1 : Nat} (h : PAL X es t) : PEL X (.Tuple es x1 pos) (lTup t) := by
  refine ⟨fun pins s σ H m ρ S I x r hp => ?_⟩
  refine wpAny_Tuple_spliced (run_seqA h I x r hp fun ds S1 q1 vs us s1 H1 m1 I1 rv e1 x1 w1 r1 hp1 => ?_)
  have hz := hope_if hp1
  refine ⟨by rw [← rv.length, w1.length]; exact hz, ?_⟩
  have hf : H1 s1.heap.objs.size = none := I1.hok.fresh (Nat.le_refl _)
  have e0 : lTup t ρ S = .ok (.tup ds) S1 := by unfold lTup; rw [q1, bind_ok, if_pos hz]
  rw [e0]
  refine (vpr_of ⟨.ref s1.heap.objs.size, upd H1 s1.heap.objs.size (.tup vs), m1, I1.laid (t' := s1.toks) (fun b u e => Heap.get?_push_of_some _ e) (Nat.le_refl _) ?_, rfl, Ext.fresh hf, x1.fresh hf, vr_newTup x1 hf w1⟩).left e1
  exact ⟨by rw [w1.length]; exact hz, us, rv, ⟨_, Heap.get?_push_size _ rfl, rfl, _, rfl⟩⟩
theorem pel_lst (h : PAL X es t) : PEL X (.List es pos) (lLst t) := by
  refine ⟨fun pins s σ H m ρ S I x r hp => ?_⟩
  refine wpAny_List_spliced (run_seqA h I x r hp fun ds S1 q1 vs us s1 H1 m1 I1 rv e1 x1 w1 r1 hp1 => ?_)
  have hz := hope_if hp1
  refine ⟨by rw [← rv.length, w1.length]; exact hz, ?_⟩
  have hf : H1 s1.heap.objs.size = none := I1.hok.fresh (Nat.le_refl _)
  have e0 : lLst t ρ S = .ok (.lst ds) S1 := by unfold lLst; rw [q1, bind_ok, if_pos hz]
  rw [e0]
  refine (vpr_of ⟨.ref s1.heap.objs.size, upd H1 s1.heap.objs.size (.lst vs), m1, I1.laid (t' := s1.toks) (fun b u e => Heap.get?_push_of_some _ e) (Nat.le_refl _) ?_, rfl, Ext.fresh hf, x1.fresh hf, vr_newLst x1 hf w1⟩).left e1
  exact ⟨by rw [w1.length]; exact hz, us, 0, rv, Heap.get?_push_size _ rfl⟩
theorem pel_lstN (h : PAL X es t) : PEL X (.List es pos) (lLstN t) := by
  refine ⟨fun pins s σ H m ρ S I x r hp => ?_⟩
  refine wpAny_List_spliced (run_seqA h I x r hp fun ds S1 q1 vs us s1 H1 m1 I1 rv e1 x1 w1 r1 hp1 => ?_)
  have hz := hope_if hp1
  refine ⟨by rw [← rv.length, w1.length]; exact hz, ?_⟩
  have hf : H1 s1.heap.objs.size = none := I1.hok.fresh (Nat.le_refl _)
  have e0 : lLstN t ρ S = .ok (.ref S1.length) (S1 ++ [.lst ds]) := by unfold lLstN; rw [q1, bind_ok, if_pos hz]
  rw [e0]
  obtain ⟨m', z1, z2, z3⟩ := qv_newL x1 hf w1
  refine (vpr_of ⟨.ref s1.heap.objs.size, upd H1 s1.heap.objs.size (.lst vs), m', I1.laid (t' := s1.toks) (fun b u e => Heap.get?_push_of_some _ e) (Nat.le_refl _) ?_, rfl, z1, z2, z3⟩).left e1
  exact ⟨by rw [w1.length]; exact hz, us, 0, rv, Heap.get?_push_size _ rfl⟩

/-! ### chains a < b < c -/
def lChain (g g' : G2) (la lb lc : LE) : LE := fun ρ S => (la ρ S).bind fun x S1 => (lb ρ S1).bind fun y S2 => (lift1 (g S2 x y) S2).bind fun d S3 => match d with
  | .bl true => (lc ρ S3).bind fun z S4 => lift1 (g' S4 y z) S4
  | .bl false => .ok (.bl false) S3
  | _ => .bad
theorem ptl_chain {op op' : CmpOp} {g g' : G2} (ho : OpL X (compareOp op) g) (ho' : OpL X (compareOp op') g') (ha : PEL X a la) (hb : PEL X b lb) (hc : PEL X c lc)
    (hm : lastMarks [op, op'] [b, c] = false := by with_unfolding_all rfl) : PTL X (.Compare a [op, op'] [b, c] pos) (tTru (lChain g g' la lb lc)) := by
  refine ⟨fun pins s σ H m ρ S I x r hp => ?_⟩
  have hp0 : Hope X σ m H (lChain g g' la lb lc ρ S) := by
    unfold tTru at hp
    cases q : lChain g g' la lb lc ρ S with
    | bad => rw [q] at hp; exact absurd rfl hp.1
    | exc C fs S' => rw [q] at hp; exact hp.exc
    | ok d S1 => exact Hope.ok
  refine isTrue_chain (run_seq ha I x r hp0 fun dx S1 q1 v u s1 H1 m1 I1 rv e1 x1 w1 r1 hp1 => test_link (run_seq hb I1 x1 r1 hp1 fun dy S2 q2 v2 u2 s2 H2 m2 I2 rv2 e2 x2 w2 r2 hp2 => ?_)) hm
  cases q3 : g S2 dx dy with
  | none => rw [q3] at hp2; exact absurd rfl hp2.1
  | some d =>
    refine thn (ho.run pins s2 σ H2 m2 S2 v v2 dx dy d u u2 I2 x2 (w1.ext e2 x1.muts) w2 rv rv2 q3) fun w s3 ⟨v3, H3, m3, I3, rv3, e3, x3, w3⟩ => ?_
    rw [q3] at hp2
    have r3 := r2.ext e3 x2.muts
    have hp3 := hp2.ext e3
    cases w3 with
    | bl k =>
      cases rv3
      refine wpAny_truthy_bool ?_
      cases k with
      | false =>
        refine ite_ff ?_
        have e0 : lChain g g' la lb lc ρ S = .ok (.bl false) S2 := by unfold lChain; rw [q1, bind_ok, q2, bind_ok, q3]; rfl
        exact ⟨S2, H3, m3, by unfold tTru; rw [e0]; rfl, I3, (e1.trans e2).trans e3, x3⟩
      | true =>
        have e0 : lChain g g' la lb lc ρ S = (lc ρ S2).bind fun z S4 => lift1 (g' S4 dy z) S4 := by unfold lChain; rw [q1, bind_ok, q2, bind_ok, q3]; rfl
        refine ite_tt (test_last (run_seq hc I3 x3 r3 (show Hope X σ m3 H3 ((lc ρ S2).bind fun z S4 => lift1 (g' S4 dy z) S4) from hp3) fun dz S4 q4 v4 u4 s4 H4 m4 I4 rv4 e4 x4 w4 r4 hp4 => ?_))
        obtain ⟨dd, q5⟩ := lift_ok hp4
        have e5 : lChain g g' la lb lc ρ S = .ok dd S4 := by rw [e0, q4, bind_ok, q5]; rfl
        refine thn (ho'.run pins s4 σ H4 m4 S4 v2 v4 dy dz dd u2 u4 I4 x4 ((w2.ext e3 x2.muts).ext e4 x3.muts) w4 rv2 rv4 q5) fun w' s5 ⟨v5, H5, m5, I5, rv5, e5', x5, w5⟩ => ?_
        refine tru_run (s := s) e5 I5 rv5 ((((e1.trans e2).trans e3).trans e4).trans e5') x5 w5 ?_
        unfold tTru at hp
        rw [e5, bind_ok] at hp
        exact hp.ext ((((e1.trans e2).trans e3).trans e4).trans e5')
    | _ => exact absurd rfl hp2.1
theorem pel_chain {op op' : CmpOp} {g g' : G2} (ho : OpL X (compareOp op) g) (ho' : OpL X (compareOp op') g') (ha : PEL X a la) (hb : PEL X b lb) (hc : PEL X c lc)
    (hm : lastMarks [op, op'] [b, c] = false := by with_unfolding_all rfl) : PEL X (.Compare a [op, op'] [b, c] pos) (lChain g g' la lb lc) := by
  refine ⟨fun pins s σ H m ρ S I x r hp0 => ?_⟩
  refine Compare_chain (run_seq ha I x r hp0 fun dx S1 q1 v u s1 H1 m1 I1 rv e1 x1 w1 r1 hp1 => chain_link (run_seq hb I1 x1 r1 hp1 fun dy S2 q2 v2 u2 s2 H2 m2 I2 rv2 e2 x2 w2 r2 hp2 => ?_)) hm
  cases q3 : g S2 dx dy with
  | none => rw [q3] at hp2; exact absurd rfl hp2.1
  | some d =>
    refine thn (ho.run pins s2 σ H2 m2 S2 v v2 dx dy d u u2 I2 x2 (w1.ext e2 x1.muts) w2 rv rv2 q3) fun w s3 ⟨v3, H3, m3, I3, rv3, e3, x3, w3⟩ => ?_
    rw [q3] at hp2
    have r3 := r2.ext e3 x2.muts
    have hp3 := hp2.ext e3
    cases w3 with
    | bl k =>
      cases rv3
      refine wpAny_truthy_bool ?_
      cases k with
      | false =>
        refine ite_ff ?_
        have e0 : lChain g g' la lb lc ρ S = .ok (.bl false) S2 := by unfold lChain; rw [q1, bind_ok, q2, bind_ok, q3]; rfl
        exact ⟨_, S2, e0, .bl false, H3, m3, I3, rfl, (e1.trans e2).trans e3, x3, .bl _⟩
      | true =>
        have e0 : lChain g g' la lb lc ρ S = (lc ρ S2).bind fun z S4 => lift1 (g' S4 dy z) S4 := by unfold lChain; rw [q1, bind_ok, q2, bind_ok, q3]; rfl
        refine ite_tt (chain_last (run_seq hc I3 x3 r3 (show Hope X σ m3 H3 ((lc ρ S2).bind fun z S4 => lift1 (g' S4 dy z) S4) from hp3) fun dz S4 q4 v4 u4 s4 H4 m4 I4 rv4 e4 x4 w4 r4 hp4 => ?_))
        obtain ⟨dd, q5⟩ := lift_ok hp4
        have e5 : lChain g g' la lb lc ρ S = .ok dd S4 := by rw [e0, q4, bind_ok, q5]; rfl
        rw [e5]
        exact thn (ho'.run pins s4 σ H4 m4 S4 v2 v4 dy dz dd u2 u4 I4 x4 ((w2.ext e3 x2.muts).ext e4 x3.muts) w4 rv2 rv4 q5) fun w' s5 z => (vpr_of z).left (((e1.trans e2).trans e3).trans e4)
    | _ => exact absurd rfl hp2.1
end
end MP

namespace MP
open PySem PySem.Spec PyProof.Rows L2

section
variable {X : Cx} {a b c e o : Expr} {la lb lc l lo : LE} {pos p apos cpos : Pos} {es rest : List Expr} {t : LA} {tc : LT} {x : Str}
/-! ### subscripts -/
structure IxL (X : Cx) (g : G2) : Prop where
  run : ∀ (value slice : Expr) (pins : List (Addr × Obj)) (s : Shared) (σ : L2.St) (H : Hp) (m : List Addr) (S : Sto) (x y : V) (dx dy d : D) (v u : Value), Inv X pins σ H s → SR X.K m H S → VR X.K m H x dx → VR X.K m H y dy → RelV x v → RelV y u → g S dx dy = some d →
    (∀ o i, subscripted slice false o i = operate [o, i] (getItem o i)) → wpAny (model X.prog X.w) X.A (subscriptTail value slice v u) (VP X pins σ m H d S) X.xe s
theorem IxL.of {r : R2} {g : G2} (h : IxR X r)
    (hg : ∀ (H : Hp) (m : List Addr) (S : Sto) (x y : V) (dx dy d : D), SR X.K m H S → VR X.K m H x dx → VR X.K m H y dy → g S dx dy = some d → r x y H (QV X.K m H S d)) : IxL X g :=
  ⟨fun value slice pins s σ H m S x y dx dy d v u I q rx ry ex ey e hs => thn (h value slice pins s σ H x y v u _ I ex ey (hg H m S x y dx dy d q rx ry e) (hs _ _)) fun _ _ z => vp_of z⟩
theorem IxL.or {g g' : G2} (h : IxL X g) (h' : IxL X g') : IxL X (fun S x y => (g S x y).or (g' S x y)) :=
  ⟨fun value slice pins s σ H m S x y dx dy d v u I q rx ry ex ey e hs => by
    cases z : g S dx dy with
    | some d' =>
      rw [z] at e
      cases e
      exact h.run value slice pins s σ H m S x y dx dy _ v u I q rx ry ex ey z hs
    | none =>
      rw [z] at e
      exact h'.run value slice pins s σ H m S x y dx dy _ v u I q rx ry ex ey e hs⟩
theorem pel_ix {g : G2} (hr : IxL X g) (ha : PEL X a la) (hb : PEL X b lb) (hs : PlainIx b := by intro _ _; rfl) : PEL X (.Subscript a b pos) (lBin g la lb) := by
  refine ⟨fun pins s σ H m ρ S I x r hp => ?_⟩
  refine Subscript_ (run_seq ha I x r hp fun dx S1 q1 v u s1 H1 m1 I1 rv e1 x1 w1 r1 hp1 => run_seq hb I1 x1 r1 hp1 fun dy S2 q2 v2 u2 s2 H2 m2 I2 rv2 e2 x2 w2 r2 hp2 => ?_)
  obtain ⟨d, q3⟩ := lift_ok hp2
  have e : lBin g la lb ρ S = .ok d S2 := by
    unfold lBin; rw [q1, bind_ok, q2, bind_ok, q3]; rfl
  rw [e]
  exact thn (hr.run a b pins s2 σ H2 m2 S2 v v2 dx dy d u u2 I2 x2 (w1.ext e2 x1.muts) w2 rv rv2 q3 hs) fun _ _ z => (vpr_of z).left (e1.trans e2)
def gIx : G2 := fun S x y => match vw S x, vw S y with
  | .lst xs, .int i => atI xs i
  | .tup xs, .int i => atI xs i
  | .str z, .int i => if z.length ≤ sizeLine then (atI z.cps.toList i).map fun c => .str ⟨#[c]⟩ else none
  | _, _ => none
theorem VRs.atI {K : PySem.W.Frag} {m : List Addr} {H : Hp} {vs : List V} {ds : List D} {i : Int} {d : D} (r : VRs K m H vs ds) (e : atI ds i = some d) : ∃ v, L2.atI vs i = some v ∧ VR K m H v d := by
  unfold L2.atI at e ⊢
  rw [r.length]
  cases q : ixN ds.length i with
  | none => rw [q] at e; cases e
  | some j =>
    rw [q] at e
    exact r.getr e
theorem ixl_seq : IxL X gIx := .of ix_seq fun H m S x y dx dy d q rx ry e => by
  unfold gIx at e
  split at e
  · rename_i xs i e1 e2
    obtain ⟨a, vs, rfl, h1, r⟩ := vw_lst q rx e1
    obtain ⟨v, h2, w⟩ := r.atI e
    exact .inl ⟨a, vs, i, v, rfl, vw_int ry e2, h1, h2, qv_same q w⟩
  · rename_i xs i e1 e2
    obtain ⟨a, vs, rfl, h1, r⟩ := vw_tup rx e1
    obtain ⟨v, h2, w⟩ := r.atI e
    exact .inr (.inl ⟨a, vs, i, v, rfl, vw_int ry e2, SqT.of h1, h2, qv_same q w⟩)
  · rename_i z i e1 e2
    split at e
    · cases h : L2.atI z.cps.toList i with
      | none => rw [h] at e; cases e
      | some c =>
        rw [h] at e
        cases e
        exact .inr (.inr ⟨z, i, c, vw_str rx e1, vw_int ry e2, ‹_›, h, qv_same q (.str _)⟩)
    · cases e
  · cases e

/-! ### slices -/
abbrev LO := Ev → Sto → R (Option Int)
structure POL (X : Cx) (e : Option Expr) (l : LO) : Prop where
  run : ∀ (pins : List (Addr × Obj)) (s : Shared) (σ : L2.St) (H : Hp) (m : List Addr) (ρ : Ev) (S : Sto), Inv X pins σ H s → SR X.K m H S → ER X.K m H σ ρ → Hope X σ m H (l ρ S) →
    wpAny (model X.prog X.w) X.A (evalPart e X.env) (fun u s' => ∃ o S' H' m', l ρ S = .ok o S' ∧ Inv X pins σ H' s' ∧ IsPart u o ∧ Ext m H m' H' ∧ SR X.K m' H' S') X.xe s
def oNone : LO := fun _ S => .ok none S
def oSome (l : LE) : LO := fun ρ S => (l ρ S).bind fun d S1 => match d with
  | .int i => .ok (some i) S1
  | _ => .bad
theorem pol_none : POL X none oNone := ⟨fun pins s σ H m ρ S I x r hp => by
  rw [evalPart_none]
  exact wpAny_pure ⟨none, S, H, m, rfl, I, .none, Ext.refl, x⟩⟩
theorem pol_some (h : PEL X e l) : POL X (some e) (oSome l) := ⟨fun pins s σ H m ρ S I x r hp => by
  rw [evalPart_some]
  refine run_seq h I x r hp fun d S1 q1 v u s1 H1 m1 I1 rv e1 x1 w1 r1 hp1 => ?_
  cases w1 with
  | int i =>
    obtain ⟨t, rfl⟩ := rv
    exact ⟨some i, S1, H1, m1, by unfold oSome; rw [q1]; rfl, I1, .int i t, e1, x1⟩
  | _ => exact absurd rfl hp1.1⟩
def lSlice (g : Sto → D → Option Int → Option Int → Option D) (la : LE) (lo hi : LO) : LE := fun ρ S => (la ρ S).bind fun d S1 => (lo ρ S1).bind fun i S2 => (hi ρ S2).bind fun j S3 => lift1 (g S3 d i j) S3
structure SlL (X : Cx) (g : Sto → D → Option Int → Option Int → Option D) : Prop where
  run : ∀ (pins : List (Addr × Obj)) (s : Shared) (σ : L2.St) (H : Hp) (m : List Addr) (S : Sto) (x : V) (dx d : D) (v vl vu : Value) (lo hi : Option Int) (sl : Addr), Inv X pins σ H s → SR X.K m H S → VR X.K m H x dx → RelV x v → s.heap.IsSliceOf sl vl vu .none → IsPart vl lo → IsPart vu hi → g S dx lo hi = some d →
    ∃ T id, typeLookup (.type T) "__getitem__" = pure (some (.builtin id)) ∧ s.TypeIs v T ∧ wpAny (model X.prog X.w) X.A (getItem v (.ref sl)) (VP X pins σ m H d S) X.xe s
theorem hope_seq {α β : Type} {r : R α} {f : α → Sto → R β} {X : Cx} {σ : L2.St} {m : List Addr} {H : Hp} (h : Hope X σ m H (r.bind f)) : Hope X σ m H r := by
  cases r with
  | bad => exact absurd rfl h.1
  | exc C fs S' => exact h.exc
  | ok a S => exact Hope.ok
theorem pel_slice {g : Sto → D → Option Int → Option Int → Option D} {lo hi : Option Expr} {l1 l2 : LO} {p2 : Pos} (hr : SlL X g) (he : PEL X e l) (hl : POL X lo l1) (hu : POL X hi l2) : PEL X (.Subscript e (.Slice lo hi none p2) pos) (lSlice g l l1 l2) := by
  refine ⟨fun pins s σ H m ρ S I x r hp => ?_⟩
  refine Subscript_ (run_seq he I x r hp fun dx S1 q1 v u s1 H1 m1 I1 rv e1 x1 w1 r1 hp1 => ?_)
  refine wpAny_Slice (thn (hl.run pins s1 σ H1 m1 ρ S1 I1 x1 r1 (hope_seq hp1)) fun vl s2 ⟨i, S2, H2, m2, q2, I2, pl, e2, x2⟩ => ?_)
  rw [q2, bind_ok] at hp1
  have r2 := r1.ext e2 x1.muts
  have hp2 := Hope.ext hp1 e2
  refine thn (hu.run pins s2 σ H2 m2 ρ S2 I2 x2 r2 (hope_seq hp2)) fun vu s3 ⟨j, S3, H3, m3, q3, I3, pu, e3, x3⟩ => ?_
  rw [q3, bind_ok] at hp2
  obtain ⟨d, q4⟩ := lift_ok hp2
  rw [evalPart_none]
  refine wpAny_pure ?_
  have I4 : Inv X pins σ H3 { s3 with heap := s3.heap.push { cls := .type "slice", data := .fields #[vl, vu, .none] } } := I3.kept (t' := s3.toks) fun b ob q => Heap.get?_push_of_some _ q
  have w3 := (w1.ext e2 x1.muts).ext e3 x2.muts
  obtain ⟨T, id, hT, ht, hg⟩ := hr.run pins { s3 with heap := s3.heap.push { cls := .type "slice", data := .fields #[vl, vu, .none] } } σ H3 m3 S3 v dx d u vl vu i j s3.heap.objs.size I4 x3 w3 rv (Heap.IsSliceOf.new ..) pl pu q4
  have e0 : lSlice g l l1 l2 ρ S = .ok d S3 := by unfold lSlice; rw [q1, bind_ok, q2, bind_ok, q3, bind_ok, q4]; rfl
  rw [e0]
  show wpAny (model X.prog X.w) X.A (subscriptTail e (.Slice lo hi none p2) u (.ref s3.heap.objs.size)) _ X.xe { s3 with heap := s3.heap.push { cls := .type "slice", data := .fields #[vl, vu, .none] } }
  exact tail_any (ops := [.ref s3.heap.objs.size, u]) ht hT (thn hg fun _ _ z => (vpr_of z).left ((e1.trans e2).trans e3)) (by with_unfolding_all rfl)
def cutD (xs : List D) (lo hi : Option Int) : List D := (xs.drop (HT.sIx xs.length 0 lo)).take (HT.sIx xs.length xs.length hi - HT.sIx xs.length 0 lo)
theorem VRs.cut {K : PySem.W.Frag} {m : List Addr} {H : Hp} {vs : List V} {ds : List D} (r : VRs K m H vs ds) (lo hi : Option Int) : VRs K m H (cutV vs lo hi) (cutD ds lo hi) := by
  unfold cutV cutD
  rw [r.length]
  exact (r.drop _).take _
def gSlice (S : Sto) (x : D) (lo hi : Option Int) : Option D := match vw S x with
  | .lst xs => some (.lst (cutD xs lo hi))
  | .tup xs => some (.tup (cutD xs lo hi))
  | .str z => if z.length ≤ sizeLine then some (.str (cutS z lo hi)) else none
  | _ => none
theorem sIx_whole (n : Nat) {lo hi : Option Int} {ds : List D} (h : HT.sIx ds.length 0 lo = 0 ∧ HT.sIx ds.length ds.length hi = ds.length) : cutD ds lo hi = ds := by
  unfold cutD
  rw [h.1, h.2]
  simp
theorem sll_any : SlL X gSlice := ⟨fun pins s σ H m S x dx d v vl vu lo hi sl I q rx ev hs pl pu e => by
  unfold gSlice at e
  split at e
  · rename_i xs e1
    cases e
    obtain ⟨a, vs, rfl, h1, r⟩ := vw_lst q rx e1
    obtain ⟨T, id, h2, h3, h4⟩ := sl_list pins s σ H _ v vl vu lo hi sl (QV X.K m H S (.lst (cutD xs lo hi))) I ev hs pl pu ⟨a, vs, rfl, h1, fun p hp => qv_new q hp (vr_newLst q hp (r.cut lo hi))⟩
    exact ⟨T, id, h2, h3, thn h4 fun _ _ z => vp_of z⟩
  · rename_i xs e1
    cases e
    obtain ⟨a, vs, rfl, h1, r⟩ := vw_tup rx e1
    obtain ⟨T, id, h2, h3, h4⟩ := sl_tupA pins s σ H _ v vl vu lo hi sl (QV X.K m H S (.tup (cutD xs lo hi))) I ev hs pl pu
      ⟨a, vs, rfl, SqT.of h1, fun z => qv_same q (by rw [r.length] at z; rw [sIx_whole 0 z]; exact .tup h1 r), fun _ p hp => qv_new q hp (vr_newTup q hp (r.cut lo hi))⟩
    exact ⟨T, id, h2, h3, thn h4 fun _ _ z => vp_of z⟩
  · rename_i z e1
    split at e
    · cases e
      have e2 := vw_str rx e1
      subst e2
      obtain ⟨T, id, h2, h3, h4⟩ := sl_str pins s σ H _ v vl vu lo hi sl (QV X.K m H S (.str (cutS z lo hi))) I ev hs pl pu ⟨z, rfl, ‹_›, qv_same q (.str _)⟩
      exact ⟨T, id, h2, h3, thn h4 fun _ _ z => vp_of z⟩
    · cases e
  · cases e⟩

/-! ### attributes of objects -/
theorem VFs.look {K : PySem.W.Frag} {m : List Addr} {H : Hp} {fs : List (Str × V)} {gs : List (Str × D)} {f : Str} {d : D} : VFs K m H fs gs → gs.lookup f = some d → ∃ v, fs.lookup f = some v ∧ VR K m H v d
  | .nil, e => by simp at e
  | @VFs.cons _ _ _ g v d' vs ds h r, e => by
    by_cases q : f = g
    · subst q
      simp [List.lookup] at e
      subst e
      exact ⟨v, by simp [List.lookup], h⟩
    · have hb : (f == g) = false := beq_eq_false_iff_ne.mpr q
      simp only [List.lookup, hb] at e ⊢
      exact VFs.look r e
theorem VFs.lookN {K : PySem.W.Frag} {m : List Addr} {H : Hp} {fs : List (Str × V)} {gs : List (Str × D)} {f : Str} : VFs K m H fs gs → gs.lookup f = none → fs.lookup f = none
  | .nil, e => rfl
  | @VFs.cons _ _ _ g v d' vs ds h r, e => by
    by_cases q : f = g
    · subst q
      simp [List.lookup] at e
    · have hb : (f == g) = false := beq_eq_false_iff_ne.mpr q
      simp only [List.lookup, hb] at e ⊢
      exact VFs.lookN r e
def gFld (C : Addr) (f : Str) (S : Sto) (d : D) : Option D := match vw S d with
  | .obj C' fs => if C' = C then fs.lookup f else none
  | _ => none
def lFld (C : Addr) (f : Str) (l : LE) : LE := fun ρ S => (l ρ S).bind fun d S1 => lift1 (gFld C f S1 d) S1
theorem pel_fld {C : Addr} {f : Str} (cl : Cls X.K C) (na : NoAttr X.K C f) (he : PEL X e l) (hb : attributeBase e f X.env (eval e X.env) = eval e X.env := by rfl) : PEL X (.Attribute e f pos) (lFld C f l) := by
  refine ⟨fun pins s σ H m ρ S I x r hp => ?_⟩
  refine attr_of hb (run_seq he I x r hp fun d S1 q1 v u s1 H1 m1 I1 rv e1 x1 w1 r1 hp1 => ?_)
  obtain ⟨d', q2⟩ := lift_ok hp1
  have e0 : lFld C f l ρ S = .ok d' S1 := by unfold lFld; rw [q1, bind_ok, q2]; rfl
  rw [e0]
  unfold gFld at q2
  split at q2
  · rename_i C' gs q3
    split at q2
    · rename_i q4
      subst q4
      obtain ⟨a, dx, fs, rfl, h1, r2⟩ := vw_obj x1 w1 q3
      obtain ⟨w, h2, h3⟩ := r2.look q2
      obtain rfl : u = Value.ref a := rv
      exact getattr_ok I1 h1 cl na h2 fun u' s2 I2 ru => (vpr_of ⟨w, H1, m1, I2, ru, Ext.refl, x1, h3⟩).left e1
    · cases q2
  · cases q2

/-! ### built-in functions and types, called by values -/
abbrev GC := Sto → List D → Option D
structure CallL (X : Cx) (f : Value) (g : GC) : Prop where
  run : ∀ (pins : List (Addr × Obj)) (s : Shared) (σ : L2.St) (H : Hp) (m : List Addr) (S : Sto) (xs : List V) (ds : List D) (d : D) (us : List Value), Inv X pins σ H s → SR X.K m H S → VRs X.K m H xs ds → Vals xs us → g S ds = some d →
    wpAny (model X.prog X.w) X.A (call f us) (VP X pins σ m H d S) X.xe s
theorem CallL.of {f : Value} {r : List V → Hp → VK → Prop} {g : GC} (h : CallR X f r) (hg : ∀ (H : Hp) (m : List Addr) (S : Sto) (xs : List V) (ds : List D) (d : D), SR X.K m H S → VRs X.K m H xs ds → g S ds = some d → r xs H (QV X.K m H S d)) : CallL X f g :=
  ⟨fun pins s σ H m S xs ds d us I q r rv e => thn (h pins s σ H xs us _ I rv (hg H m S xs ds d q r e)) fun _ _ z => vp_of z⟩
theorem CallL.or {f : Value} {g g' : GC} (h : CallL X f g) (h' : CallL X f g') : CallL X f (fun S ds => (g S ds).or (g' S ds)) :=
  ⟨fun pins s σ H m S xs ds d us I q r rv e => by
    cases z : g S ds with
    | some d' =>
      rw [z] at e
      cases e
      exact h.run pins s σ H m S xs ds _ us I q r rv z
    | none =>
      rw [z] at e
      exact h'.run pins s σ H m S xs ds _ us I q r rv e⟩
def lCallB (g : GC) (t : LA) : LE := fun ρ S => (t ρ S).bind fun ds S1 => lift1 (g S1 ds) S1
theorem pel_callB {id : String} {g : GC} (hc : CallL X (.builtin id) g) (hg : Gl X x) (hm : X.mg x = none) (hv : bootBuiltins x = some (.builtin id)) (ha : PAL X (e :: es) t) (hn : x ≠ "__name__" := by decide) (hdb : (x == ("__debug__" : Str)) = false := by decide)
    (he : starEach (e :: es) X.env = (false, eval e X.env) :: starEach es X.env := by rfl) (hpl : (backTo pos (starEach es X.env)).any (·.1) = false := by rfl) : PEL X (.Call (.Name x p) (e :: es) [] pos) (lCallB g t) := by
  refine ⟨fun pins s σ H m ρ S I x r hp => ?_⟩
  refine wpAny_Call_Name_kw (ld_blt I hg hm hv ?_ hn hdb)
  refine PyProof.Rows.callWith_builtin1 (run_seqA ha I x r hp fun ds S1 q1 vs us s1 H1 m1 I1 rv e1 x1 w1 r1 hp1 => ?_) he hpl
  obtain ⟨d', q2⟩ := lift_ok hp1
  have e0 : lCallB g t ρ S = .ok d' S1 := by unfold lCallB; rw [q1, bind_ok, q2]; rfl
  rw [e0]
  exact thn (hc.run pins s1 σ H1 m1 S1 vs ds d' us I1 x1 w1 rv q2) fun _ _ z => (vpr_of z).left e1
theorem pel_callTy {T : String} {g : GC} (hc : CallL X (.type T) g) (hg : Gl X x) (hm : X.mg x = none) (hv : bootBuiltins x = some (.type T)) (ha : PAL X (e :: es) t) (hn : x ≠ "__name__" := by decide) (hdb : (x == ("__debug__" : Str)) = false := by decide)
    (he : starEach (e :: es) X.env = (false, eval e X.env) :: starEach es X.env := by rfl) (hpl : (backTo pos (starEach es X.env)).any (·.1) = false := by rfl) : PEL X (.Call (.Name x p) (e :: es) [] pos) (lCallB g t) := by
  refine ⟨fun pins s σ H m ρ S I x r hp => ?_⟩
  refine wpAny_Call_Name_kw (ld_blt I hg hm hv ?_ hn hdb)
  refine PyProof.Rows.callWith_type1 (run_seqA ha I x r hp fun ds S1 q1 vs us s1 H1 m1 I1 rv e1 x1 w1 r1 hp1 => ?_) he hpl
  obtain ⟨d', q2⟩ := lift_ok hp1
  have e0 : lCallB g t ρ S = .ok d' S1 := by unfold lCallB; rw [q1, bind_ok, q2]; rfl
  rw [e0]
  exact thn (hc.run pins s1 σ H1 m1 S1 vs ds d' us I1 x1 w1 rv q2) fun _ _ z => (vpr_of z).left e1
end
end MP

namespace MP
open PySem PySem.Spec PyProof.Rows L2

/-! ### room, and no repr under way (L2.Room and L2.FnOk, with the guards) -/
structure Room (k : Nat) (A : Around) : Prop where
  r : L2.Room k A
  g : A.guards = some []
theorem Room.mono {j k : Nat} {A : Around} (r : MP.Room k A) (h : j ≤ k) : MP.Room j A := ⟨r.r.mono h, r.g⟩
theorem Room.deeper {k : Nat} {A : Around} (r : MP.Room (k + 1) A) (env : Env) : MP.Room k (A.deeper env) := ⟨r.r.deeper env, r.g⟩
theorem Room.in1 {k : Nat} {A : Around} (r : MP.Room (k + 1) A) : MP.Room k A.in1 := ⟨r.r.in1, r.g⟩
theorem Room.make {k : Nat} {A : Around} (r : MP.Room (k + 1) A) (C : Addr) (us : List Value) (kw : List (Str × Value)) : MP.Room k (A.under (.builtin "type.__call__" ⟨.ref C :: us, kw⟩)) :=
  ⟨r.r.make C us kw, by
    have h := r.g
    first
      | exact h
      | (simp [Around.under, Code.guards, pushGuards, Code.isGuard, guardIds, h])⟩
theorem Room.depth {k : Nat} {A : Around} (r : MP.Room k A) : A.depth < recursionLimit := r.r.depth
theorem Room.units {k : Nat} {A : Around} (r : MP.Room k A) : A.units + 64 < cLine := r.r.units
theorem Room.units0 {k : Nat} {A : Around} (r : MP.Room k A) : A.units < cLine := r.r.units0
theorem Room.hd {k : Nat} {A : Around} (r : MP.Room k A) : A.handled = none := r.r.hd
structure FnOk (P : Program) (w : World) (K : PySem.W.Frag) (mg : Str → Option Value) (base : Heap) (CX : CXT) (k : Nat) (f : Addr) (fd : FuncData) (ps : List Str) (sp : Sp) : Prop where
  len : ∀ vs H Q E, sp vs H Q E → vs.length = ps.length
  run : ∀ (A : Around) (outer : List Env) (s : Shared) (H : Hp) (args : Args) (us : List Value) (vs : List V) (Q : VK) (E : XK), MP.Room k A → Env0 P w K mg base A outer s H → BindsTo s fd args (ps.zip us) → Vals vs us → sp vs H Q E →
    codeAny (model P w) A (.call (.ref f) args) (CR CX outer P w H s Q E) s
theorem FnOk.imp {P : Program} {w : World} {K : PySem.W.Frag} {mg : Str → Option Value} {base : Heap} {CX : CXT} {k : Nat} {f : Addr} {fd : FuncData} {ps : List Str} {sp sp' : Sp} (F : MP.FnOk P w K mg base CX k f fd ps sp)
    (h : ∀ vs H Q E, sp' vs H Q E → sp vs H Q E) : MP.FnOk P w K mg base CX k f fd ps sp' :=
  ⟨fun vs H Q E q => F.len vs H Q E (h _ _ _ _ q), fun A outer s H args us vs Q E hr he hb hv hs => F.run A outer s H args us vs Q E hr he hb hv (h _ _ _ _ hs)⟩

/-! ### what a def promises, by the store -/
abbrev F := List D → Sto → R D
def spL (K : PySem.W.Frag) (f : F) (n : Nat) : Sp := fun vs H Q E => vs.length = n ∧ ∃ m S ds, SR K m H S ∧ VRs K m H vs ds ∧ f ds S ≠ .bad ∧ (∀ d S', f ds S = .ok d S' → ∀ v H', QV K m H S' d v H' → Q v H') ∧
  ∀ C fs S', f ds S = .exc C fs S' → ∀ cls d H', WL K m H C fs S' cls d H' → E cls d H'
abbrev FnL (P : Program) (w : World) (K : PySem.W.Frag) (mg : Str → Option Value) (base : Heap) (k : Nat) (f : Addr) (fd : FuncData) (ps : List Str) (g : F) : Prop := FnOk P w K mg base (L2.CX P w) k f fd ps (spL K g ps.length)

section
variable {X : Cx} {a b c e o : Expr} {la lb lc l lo : LE} {pos p apos cpos : Pos} {es rest : List Expr} {t : LA} {tc : LT} {x mn : Str} {k : Nat} {f C : Addr} {fd : FuncData} {ps : List Str} {g : F}
theorem run_fnL {pins : List (Addr × Obj)} {σ : L2.St} {H : Hp} {s : Shared} {us ds0 : List Value} {vs dvs : List V} {m : List Addr} {S : Sto} {ds dd : List D} (Fn : FnL X.prog X.w X.K X.mg X.base k f fd ps g) (hr : Room k X.A) (hb : Binds X.K fd ps ds0) (hd : Vals dvs ds0) (hdd : VRs X.K m H dvs dd)
    (I : Inv X pins σ H s) (x : SR X.K m H S) (r : Vals vs us) (rd : VRs X.K m H vs ds) (hl : (vs ++ dvs).length = ps.length) (hp : Hope X σ m H (g (ds ++ dd) S)) :
    wpAny (model X.prog X.w) X.A (call (.ref f) us) (VPr X pins σ m H (g (ds ++ dd) S)) X.xe s := by
  have r2 : Vals (vs ++ dvs) (us ++ ds0) := r.append hd
  have hl2 : (us ++ ds0).length = ps.length := by rw [← r2.length]; exact hl
  have rd2 : VRs X.K m H (vs ++ dvs) (ds ++ dd) := rd.append hdd
  have hsp : spL X.K g ps.length (vs ++ dvs) H (fun v H' => ∃ d S', g (ds ++ dd) S = .ok d S' ∧ QV X.K m H S' d v H') (fun cls d H' => ∃ C fs S', g (ds ++ dd) S = .exc C fs S' ∧ WL X.K m H C fs S' cls d H') :=
    ⟨hl, m, S, ds ++ dd, x, rd2, hp.1, fun d S' q v H' z => ⟨d, S', q, z⟩, fun C fs S' q cls d H' z => ⟨C, fs, S', q, z⟩⟩
  refine wpAny_call (codeAny_mono (Fn.run X.A X.stack s H ⟨us, []⟩ (us ++ ds0) (vs ++ dvs) _ _ hr I.env0 (hb s us I.kIn hl2) r2 hsp) fun r s' hq => ?_)
  cases r with
  | error e =>
    cases q : g (ds ++ dd) S with
    | bad => rw [q] at hp; exact absurd rfl hp.1
    | ok d S' =>
      obtain ⟨_, _, _, _, _, _, _, _, _, _, _, _, C, fs, S', q', _⟩ := hq
      rw [q] at q'; cases q'
    | exc C fs S' =>
      refine hp.2 C fs S' q e s' (XE.of_call I (fun cls d H' w => ?_) hq)
      obtain ⟨C', fs', S'', q', w⟩ := w
      rw [q] at q'; cases q'
      exact ⟨rfl, w⟩
  | ok fl =>
    cases fl with
    | ret u =>
      obtain ⟨v, H', I', rv, d, S', q, m', e, x', w⟩ := I.after hq
      exact ⟨d, S', q, v, H', m', I', rv, e, x', w⟩
    | next => exact False.elim hq
    | brk => exact False.elim hq
    | cont => exact False.elim hq
/-- what a call's values by default are -/
structure Dfl (K : PySem.W.Frag) (dvs : List V) (ds0 : List Value) (dd : List D) : Prop where
  vals : Vals dvs ds0
  rel : ∀ m H, VRs K m H dvs dd
theorem dfl_nil {K : PySem.W.Frag} : Dfl K [] [] [] := ⟨.nil, fun _ _ => .nil⟩
def lCall (n : Nat) (g : F) (dd : List D) (t : LA) : LE := fun ρ S => (t ρ S).bind fun ds S1 => if ds.length + dd.length = n then g (ds ++ dd) S1 else .bad
theorem pel_call {ds0 : List Value} {dvs : List V} {dd : List D} (Fn : FnL X.prog X.w X.K X.mg X.base k f fd ps g) (hr : Room k X.A) (hg : Gl X x) (hm : X.mg x = some (.ref f)) (hk : PySem.W.keepIn X.K (.ref f) = true) (hb : Binds X.K fd ps ds0) (hd : Dfl X.K dvs ds0 dd)
    (ha : PAL X (e :: es) t) (hdb : (x == ("__debug__" : Str)) = false := by decide) (he : starEach (e :: es) X.env = (false, eval e X.env) :: starEach es X.env := by rfl) (hpl : (backTo pos (starEach es X.env)).any (·.1) = false := by rfl) :
    PEL X (.Call (.Name x p) (e :: es) [] pos) (lCall ps.length g dd t) := by
  refine ⟨fun pins s σ H m ρ S I x r hp => ?_⟩
  refine wpAny_Call_Name_kw (ld_glob I hg hm ?_ hdb)
  refine PySem.W.callWith_K (h₀ := X.base) I.ok.mod.kin hk (run_seqA ha I x r hp fun ds S1 q1 vs us s1 H1 m1 I1 rv e1 x1 w1 r1 hp1 => ⟨I1.kIn, ?_⟩) he hpl
  have hl := hope_if hp1
  rw [if_pos hl] at hp1
  have e0 : lCall ps.length g dd t ρ S = g (ds ++ dd) S1 := by unfold lCall; rw [q1, bind_ok, if_pos hl]
  rw [e0]
  exact thn (run_fnL Fn hr hb hd.vals (hd.rel _ _) I1 x1 rv w1 (by rw [List.length_append, w1.length, (hd.rel m1 H1).length]; exact hl) hp1) fun _ _ z => z.left e1
theorem pel_call0 {ds0 : List Value} {dvs : List V} {dd : List D} (Fn : FnL X.prog X.w X.K X.mg X.base k f fd ps g) (hr : Room k X.A) (hg : Gl X x) (hm : X.mg x = some (.ref f)) (hk : PySem.W.keepIn X.K (.ref f) = true) (hb : Binds X.K fd ps ds0) (hd : Dfl X.K dvs ds0 dd)
    (hdb : (x == ("__debug__" : Str)) = false := by decide) : PEL X (.Call (.Name x p) [] [] pos) (lCall ps.length g dd aNil) := by
  refine ⟨fun pins s σ H m ρ S I x r hp => ?_⟩
  refine wpAny_Call_Name_kw (ld_glob I hg hm ?_ hdb)
  have hp1 : Hope X σ m H (if ([] : List D).length + dd.length = ps.length then g ([] ++ dd) S else .bad) := hp
  have hl := hope_if hp1
  rw [if_pos hl] at hp1
  have e0 : lCall ps.length g dd aNil ρ S = g ([] ++ dd) S := by show (if ([] : List D).length + dd.length = ps.length then g ([] ++ dd) S else .bad) = _; rw [if_pos hl]
  rw [e0]
  exact PySem.W.callWith_K0 I.kIn hk (run_fnL (us := []) Fn hr hb hd.vals (hd.rel _ _) I x .nil .nil (by rw [List.nil_append, (hd.rel m H).length]; simpa using hl) hp1)

/-- o.m(..): C the object's class -/
def recv (C : Addr) (mn : Str) (S : Sto) (d : D) : Bool := match vw S d with
  | .obj C' fs => decide (C' = C) && (fs.lookup mn).isNone
  | _ => false
def lMeth (C : Addr) (mn : Str) (n : Nat) (g : F) (dd : List D) (lo : LE) (t : LA) : LE := fun ρ S => (lo ρ S).bind fun d S0 => if recv C mn S0 d = true then (t ρ S0).bind fun ds S1 => if (ds.length + dd.length) + 1 = n then g (d :: (ds ++ dd)) S1 else .bad else .bad
theorem recv_at {K : PySem.W.Frag} {m : List Addr} {H : Hp} {S : Sto} {v : V} {d : D} (x : SR K m H S) (r : VR K m H v d) (h : recv C mn S d = true) : ∃ a dx fs, v = .ref a ∧ H a = some (.ins C dx fs) ∧ fs.lookup mn = none := by
  unfold recv at h
  split at h
  · rename_i C' gs q
    rw [Bool.and_eq_true] at h
    have h1 := of_decide_eq_true h.1
    subst h1
    obtain ⟨a, dx, fs, rfl, h2, r2⟩ := vw_obj x r q
    exact ⟨a, dx, fs, rfl, h2, r2.lookN (Option.isNone_iff_eq_none.mp h.2)⟩
  · cases h
theorem pel_meth {pl : Sem Bool} {ds0 : List Value} {dvs : List V} {dd : List D} (c : Cls X.K C) (hm : Meth X.K C mn f) (Fn : FnL X.prog X.w X.K X.mg X.base k f fd ps g) (hr : Room k X.A) (hb : Binds X.K fd ps ds0) (hd : Dfl X.K dvs ds0 dd) (he : PEL X o lo) (ha : PAL X (e :: es) t)
    (hst : starEach (e :: es) X.env = (false, eval e X.env) :: starEach es X.env := by rfl) (hpl : (backTo pos (starEach es X.env)).any (·.1) = false := by rfl)
    (ht : eval (.Call (.Attribute o mn apos) (e :: es) [] pos) X.env = (do
      let ov ← eval o X.env
      standAt apos.atName
      let (f, first) ← holding [ov] (getMethod ov mn pl)
      callWith pos f first (backTo pos (starEach (e :: es) X.env)) (backToKw pos (keywordEach [] X.env))) := by rfl) :
    PEL X (.Call (.Attribute o mn apos) (e :: es) [] pos) (lMeth C mn ps.length g dd lo t) := by
  refine ⟨fun pins s σ H m ρ S I x r hp => ?_⟩
  refine PySem.W.methodCall_KW (pl := pl) (run_seq he I x r hp fun d S0 q0 v u s0 H0 m0 I0 rv0 e0 x0 w0 r0 hp0 => ?_) ht
  have hc := hope_if hp0
  rw [if_pos hc] at hp0
  obtain ⟨a, dx, fs, rfl, ea, hl⟩ := recv_at x0 w0 hc
  obtain rfl : u = Value.ref a := rv0
  refine getmeth_ok I0 ea c hm hl ?_
  refine PySem.W.callWith_K (first := [.ref a]) (h₀ := X.base) I.ok.mod.kin hm.kp (run_seqA ha I0 x0 r0 hp0 fun ds S1 q1 vs us s1 H1 m1 I1 rv1 e1 x1 w1 r1 hp1 => ⟨I1.kIn, ?_⟩) hst hpl
  have hn := hope_if hp1
  rw [if_pos hn] at hp1
  have ez : lMeth C mn ps.length g dd lo t ρ S = g (d :: (ds ++ dd)) S1 := by unfold lMeth; rw [q0, bind_ok, if_pos hc, q1, bind_ok, if_pos hn]
  rw [ez]
  exact thn (run_fnL (us := .ref a :: us) (vs := .ref a :: vs) (ds := d :: ds) Fn hr hb hd.vals (hd.rel _ _) I1 x1 (.cons rfl rv1) (.cons (w0.ext e1 x0.muts) w1)
    (by rw [List.cons_append, List.length_cons, List.length_append, w1.length, (hd.rel m1 H1).length]; exact hn) hp1) fun _ _ z => z.left (e0.trans e1)
theorem pel_meth0 {pl : Sem Bool} {ds0 : List Value} {dvs : List V} {dd : List D} (c : Cls X.K C) (hm : Meth X.K C mn f) (Fn : FnL X.prog X.w X.K X.mg X.base k f fd ps g) (hr : Room k X.A) (hb : Binds X.K fd ps ds0) (hd : Dfl X.K dvs ds0 dd) (he : PEL X o lo)
    (ht : eval (.Call (.Attribute o mn apos) [] [] pos) X.env = (do
      let ov ← eval o X.env
      standAt apos.atName
      let (f, first) ← holding [ov] (getMethod ov mn pl)
      callWith pos f first (backTo pos (starEach [] X.env)) (backToKw pos (keywordEach [] X.env))) := by rfl) :
    PEL X (.Call (.Attribute o mn apos) [] [] pos) (lMeth C mn ps.length g dd lo aNil) := by
  refine ⟨fun pins s σ H m ρ S I x r hp => ?_⟩
  refine PySem.W.methodCall_KW (pl := pl) (run_seq he I x r hp fun d S0 q0 v u s0 H0 m0 I0 rv0 e0 x0 w0 r0 hp0 => ?_) ht
  have hc := hope_if hp0
  rw [if_pos hc] at hp0
  obtain ⟨a, dx, fs, rfl, ea, hl⟩ := recv_at x0 w0 hc
  obtain rfl : u = Value.ref a := rv0
  refine getmeth_ok I0 ea c hm hl ?_
  have hp1 : Hope X σ m0 H0 (if (([] : List D).length + dd.length) + 1 = ps.length then g (d :: ([] ++ dd)) S0 else .bad) := hp0
  have hn := hope_if hp1
  rw [if_pos hn] at hp1
  have ez : lMeth C mn ps.length g dd lo aNil ρ S = g (d :: ([] ++ dd)) S0 := by
    unfold lMeth; rw [q0, bind_ok, if_pos hc]
    show (if (([] : List D).length + dd.length) + 1 = ps.length then g (d :: ([] ++ dd)) S0 else .bad) = _
    rw [if_pos hn]
  rw [ez]
  exact PySem.W.callWith_K0 (first := [.ref a]) I0.kIn hm.kp (thn (run_fnL (us := [.ref a]) (vs := [.ref a]) (ds := [d]) Fn hr hb hd.vals (hd.rel _ _) I0 x0 (.cons rfl .nil) (.cons w0 .nil)
    (by rw [List.length_append, (hd.rel m0 H0).length]; simp at hn ⊢; omega) hp1) fun _ _ z => z.left e0)
end

/-! ### what nobody can reach any more is let go -/
mutual
def below (n : Nat) : D → Bool
  | .ref i => decide (i < n)
  | .tup xs => belows n xs
  | .lst xs => belows n xs
  | .dct _ kvs => belowd n kvs
  | .obj _ fs => belowf n fs
  | .exn _ fs => belowf n fs
  | _ => true
def belows (n : Nat) : List D → Bool
  | [] => true
  | x :: xs => below n x && belows n xs
def belowd (n : Nat) : List (D × D) → Bool
  | [] => true
  | (_, x) :: xs => below n x && belowd n xs
def belowf (n : Nat) : List (Str × D) → Bool
  | [] => true
  | (_, x) :: xs => below n x && belowf n xs
end
def belowo (n : Nat) : O → Bool
  | .lst xs => belows n xs
  | .dct _ kvs => belowd n kvs
  | .ins _ fs => belowf n fs
section
variable {K : PySem.W.Frag} {m : List Addr} {H : Hp}
mutual
theorem VR.bel {v : V} {d : D} : VR K m H v d → below m.length d = true
  | .non => rfl
  | .bl _ => rfl
  | .int _ => rfl
  | .str _ => rfl
  | .tup _ r => r.bel
  | .lst _ _ r => r.bel
  | .lstK _ _ _ _ _ _ r => r.bel
  | .dct _ _ r => r.bel
  | .dctT _ _ r => r.bel
  | .obj _ _ r => r.bel
  | .exn0 _ _ => rfl
  | .exnD _ _ _ _ r => r.bel
  | .ref h => by
    simp only [MP.below]
    exact decide_eq_true (List.getElem?_eq_some_iff.mp h).1
theorem VRs.bel {v : List V} {d : List D} : VRs K m H v d → belows m.length d = true
  | .nil => rfl
  | .cons h r => by simp only [MP.belows, h.bel, r.bel, Bool.and_self]
theorem VFs.bel {v : List (Str × V)} {d : List (Str × D)} : VFs K m H v d → belowf m.length d = true
  | .nil => rfl
  | .cons h r => by simp only [MP.belowf, h.bel, r.bel, Bool.and_self]
theorem VDk.bel {v : List (Key × V)} {d : List (D × D)} : VDk K m H v d → belowd m.length d = true
  | .nil => rfl
  | .cons h r => by simp only [MP.belowd, h.bel, r.bel, Bool.and_self]
theorem VDt.bel {v : List (List Key × V)} {d : List (D × D)} : VDt K m H v d → belowd m.length d = true
  | .nil => rfl
  | .cons h r => by simp only [MP.belowd, h.bel, r.bel, Bool.and_self]
end
variable {l : List Addr}
theorem nin_left {a : Addr} (h : a ∉ m ++ l) : a ∉ m := fun z => h (List.mem_append_left _ z)
mutual
theorem VR.down {v : V} {d : D} : VR K (m ++ l) H v d → MP.below m.length d = true → VR K m H v d
  | .non, _ => .non
  | .bl b, _ => .bl b
  | .int i, _ => .int i
  | .str s, _ => .str s
  | .tup h r, q => .tup h (r.down (by simpa only [MP.below] using q))
  | .lst n h r, q => .lst (nin_left n) h (r.down (by simpa only [MP.below] using q))
  | .lstK hk h1 h2 h3 h4 h5 r, q => .lstK hk h1 h2 h3 h4 h5 (r.down (by simpa only [MP.below] using q))
  | .dct n h r, q => .dct (nin_left n) h (r.down (by simpa only [MP.below] using q))
  | .dctT n h r, q => .dctT (nin_left n) h (r.down (by simpa only [MP.below] using q))
  | .obj n h r, q => .obj (nin_left n) h (r.down (by simpa only [MP.below] using q))
  | .exn0 n h, q => .exn0 (nin_left n) h
  | .exnD n nd h hd r, q => .exnD (nin_left n) (nin_left nd) h hd (r.down (by simpa only [MP.below] using q))
  | .ref h, q => .ref (by
    simp only [MP.below] at q
    rw [List.getElem?_append_left (of_decide_eq_true q)] at h
    exact h)
theorem VRs.down {v : List V} {d : List D} : VRs K (m ++ l) H v d → MP.belows m.length d = true → VRs K m H v d
  | .nil, _ => .nil
  | .cons h r, q => by
    simp only [MP.belows, Bool.and_eq_true] at q
    exact .cons (h.down q.1) (r.down q.2)
theorem VFs.down {v : List (Str × V)} {d : List (Str × D)} : VFs K (m ++ l) H v d → MP.belowf m.length d = true → VFs K m H v d
  | .nil, _ => .nil
  | .cons h r, q => by
    simp only [MP.belowf, Bool.and_eq_true] at q
    exact .cons (h.down q.1) (r.down q.2)
theorem VDk.down {v : List (Key × V)} {d : List (D × D)} : VDk K (m ++ l) H v d → MP.belowd m.length d = true → VDk K m H v d
  | .nil, _ => .nil
  | .cons h r, q => by
    simp only [MP.belowd, Bool.and_eq_true] at q
    exact .cons (h.down q.1) (r.down q.2)
theorem VDt.down {v : List (List Key × V)} {d : List (D × D)} : VDt K (m ++ l) H v d → MP.belowd m.length d = true → VDt K m H v d
  | .nil, _ => .nil
  | .cons h r, q => by
    simp only [MP.belowd, Bool.and_eq_true] at q
    exact .cons (h.down q.1) (r.down q.2)
end
/-- a place of the store from n on, as what stands there -/
def fz0 (S : Sto) (n : Nat) (d : D) : D := match d with
  | .ref i => if i < n then .ref i else vw S (.ref i)
  | d => d
def fz (S : Sto) (n : Nat) (d : D) : D := match fz0 S n d with
  | .obj C fs => .obj C (fs.map fun q => (q.1, fz0 S n q.2))
  | d => d
theorem nodup_get {xs : List Addr} (h : xs.Nodup) {i j : Nat} {a : Addr} (h1 : xs[i]? = some a) (h2 : xs[j]? = some a) : i = j := by
  obtain ⟨p1, e1⟩ := List.getElem?_eq_some_iff.mp h1
  obtain ⟨p2, e2⟩ := List.getElem?_eq_some_iff.mp h2
  exact (List.getElem_inj h).mp (e1.trans e2.symm)
theorem VR.fz0 {S : Sto} {v : V} {d : D} (x : SR K (m ++ l) H S) (r : VR K (m ++ l) H v d) : ∃ v', v' = v ∧ (VR K (m ++ l) H v (MP.fz0 S m.length d) ∨ (∃ a, v = .ref a ∧ a ∉ m ∧ ∃ ob, OR K (m ++ l) H a ob ∧ MP.fz0 S m.length d = (match ob with
  | .lst xs => .lst xs
  | .dct t kvs => .dct t kvs
  | .ins C fs => .obj C fs))) := by
  refine ⟨v, rfl, ?_⟩
  cases r with
  | @ref i a h =>
    unfold MP.fz0
    by_cases hi : i < m.length
    · dsimp only
      rw [if_pos hi]
      exact .inl (.ref h)
    · dsimp only
      rw [if_neg hi]
      cases q : S[i]? with
      | none =>
        have := (List.getElem?_eq_some_iff.mp h).1
        rw [x.len] at this
        rw [List.getElem?_eq_none_iff] at q
        omega
      | some ob =>
        refine .inr ⟨a, rfl, fun z => ?_, ob, x.at_ i a ob h q, by dsimp only [vw]; rw [q]; cases ob <;> rfl⟩
        obtain ⟨j, hj⟩ := List.mem_iff_getElem?.mp z
        have hj' := (List.getElem?_eq_some_iff.mp hj).1
        have h2 : (m ++ l)[j]? = some a := by rw [List.getElem?_append_left hj']; exact hj
        have := nodup_get x.nd h2 h
        omega
  | non => exact .inl .non
  | bl b => exact .inl (.bl b)
  | int b => exact .inl (.int b)
  | str b => exact .inl (.str b)
  | tup h r => exact .inl (.tup h r)
  | lst n h r => exact .inl (.lst n h r)
  | lstK hk h1 h2 h3 h4 h5 r => exact .inl (.lstK hk h1 h2 h3 h4 h5 r)
  | dct n h r => exact .inl (.dct n h r)
  | dctT n h r => exact .inl (.dctT n h r)
  | obj n h r => exact .inl (.obj n h r)
  | exn0 n h => exact .inl (.exn0 n h)
  | exnD n nd h hd r => exact .inl (.exnD n nd h hd r)
end
end MP

namespace MP
open PySem PySem.Spec PyProof.Rows L2

section
variable {K : PySem.W.Frag} {m l : List Addr} {H H' : Hp} {S S' : Sto}
theorem OR.bel {a : Addr} {o : O} (h : OR K m H a o) : belowo m.length o = true := by
  cases h with
  | lst _ r => exact r.bel
  | dct _ r => exact r.bel
  | dctT _ r => exact r.bel
  | ins _ r => exact r.bel
theorem OR.down {a : Addr} {o : O} (h : OR K (m ++ l) H a o) (b : belowo m.length o = true) : OR K m H a o := by
  cases h with
  | lst h r => exact .lst h (r.down b)
  | dct h r => exact .dct h (r.down b)
  | dctT h r => exact .dctT h (r.down b)
  | ins h r => exact .ins h (r.down b)
def snap : O → D
  | .lst xs => .lst xs
  | .dct t kvs => .dct t kvs
  | .ins C fs => .obj C fs
theorem VR.fz0_down {v : V} {d : D} (x : SR K (m ++ l) H S) (r : VR K (m ++ l) H v d) (b : MP.below m.length (MP.fz0 S m.length d) = true) : VR K m H v (MP.fz0 S m.length d) := by
  obtain ⟨_, rfl, q⟩ := VR.fz0 x r
  rcases q with q | ⟨a, rfl, na, ob, q, e⟩
  · exact q.down b
  · rw [e] at b ⊢
    cases q with
    | lst h r => exact .lst na (.inl h) (r.down (by simpa only [MP.below] using b))
    | dct h r => exact .dct na h (r.down (by simpa only [MP.below] using b))
    | dctT h r => exact .dctT na h (r.down (by simpa only [MP.below] using b))
    | ins h r => exact .obj na h (r.down (by simpa only [MP.below] using b))
theorem VFs.fz0_down (x : SR K (m ++ l) H S) : ∀ {vs : List (Str × V)} {ds : List (Str × D)}, VFs K (m ++ l) H vs ds → belowf m.length (ds.map fun q => (q.1, MP.fz0 S m.length q.2)) = true → VFs K m H vs (ds.map fun q => (q.1, MP.fz0 S m.length q.2))
  | _, _, .nil, _ => .nil
  | _, _, .cons h r, q => by
    simp only [List.map_cons, belowf, Bool.and_eq_true] at q
    exact .cons (h.fz0_down x q.1) (VFs.fz0_down x r q.2)
theorem VR.fz_down {v : V} {d : D} (x : SR K (m ++ l) H S) (r : VR K (m ++ l) H v d) (b : MP.below m.length (fz S m.length d) = true) : VR K m H v (fz S m.length d) := by
  unfold fz at b ⊢
  split at b
  · rename_i C fs e
    obtain ⟨_, rfl, q⟩ := VR.fz0 x r
    simp only [MP.below] at b
    rcases q with q | ⟨a, rfl, na, ob, q, e2⟩
    · rw [e] at q
      cases q with
      | obj n h r => exact .obj (nin_left n) h (VFs.fz0_down x r b)
    · rw [e2] at e
      cases q with
      | ins h r => cases e; exact .obj na h (VFs.fz0_down x r b)
      | lst _ _ => cases e
      | dct _ _ => cases e
      | dctT _ _ => cases e
  · exact r.fz0_down x b
/-- a weaker result: less is told, or what nobody reaches any more is let go -/
inductive RLe (S : Sto) : R D → R D → Prop where
  | bad (r : R D) : RLe S .bad r
  | refl (r : R D) : RLe S r r
  | gc (d d' : D) (S' : Sto) (h : S'.take S.length = S) (e : d' = fz S' S.length d) (b : below S.length d' = true) : RLe S (.ok d' S) (.ok d S')
  | gcx (C : Addr) (fs : List (Str × D)) (S' : Sto) (h : S'.take S.length = S) (b : belowf S.length fs = true) : RLe S (.exc C fs S) (.exc C fs S')
theorem sr_gc {m' : List Addr} (x : SR K m H S) (e : Ext m H m' H') (x' : SR K m' H' S') (h : S'.take S.length = S) : SR K m H' S ∧ Ext m H m H' := by
  obtain ⟨l, el⟩ := e.pre
  subst el
  refine ⟨⟨x.nd, x.len, fun i a o h1 h2 => ?_⟩, ⟨[], by simp⟩, fun a h => .inl h, e.keep⟩
  have hi := (List.getElem?_eq_some_iff.mp h1).1
  have hs := (List.getElem?_eq_some_iff.mp h2).1
  refine (x'.at_ i a o (by rw [List.getElem?_append_left hi]; exact h1) ?_).down (x.at_ i a o h1 h2).bel
  rw [← h, List.getElem?_take] at h2
  rw [if_pos hs] at h2
  exact h2
theorem qv_gc {d : D} {v : V} (x : SR K m H S) (q : QV K m H S' d v H') (h : S'.take S.length = S) (b : below S.length (fz S' S.length d) = true) : QV K m H S (fz S' S.length d) v H' := by
  obtain ⟨m', e, x', w⟩ := q
  obtain ⟨y1, y2⟩ := sr_gc x e x' h
  obtain ⟨l, el⟩ := e.pre
  subst el
  rw [← x.len] at b ⊢
  exact ⟨m, y2, y1, w.fz_down x' b⟩
theorem wl_gc {C : Addr} {fs : List (Str × D)} {cls : Value} {dd : Option Addr} (x : SR K m H S) (q : WL K m H C fs S' cls dd H') (h : S'.take S.length = S) (b : belowf S.length fs = true) : WL K m H C fs S cls dd H' := by
  obtain ⟨h1, a, vs, m', h2, h3, e, x', w⟩ := q
  obtain ⟨y1, y2⟩ := sr_gc x e x' h
  obtain ⟨l, el⟩ := e.pre
  subst el
  rw [← x.len] at b
  exact ⟨h1, a, vs, m, h2, h3, y2, y1, w.down b⟩
end
theorem FnL.le {P : Program} {w : World} {K : PySem.W.Frag} {mg : Str → Option Value} {base : Heap} {k : Nat} {f : Addr} {fd : FuncData} {ps : List Str} {g g' : F} (h : FnL P w K mg base k f fd ps g) (hle : ∀ ds S, ds.length = ps.length → RLe S (g' ds S) (g ds S)) : FnL P w K mg base k f fd ps g' := by
  refine FnOk.imp h fun vs H Q E ⟨hl, m, S, ds, x, r, nb, q1, q2⟩ => ⟨hl, m, S, ds, x, r, ?_⟩
  have z := hle ds S (by rw [← r.length]; exact hl)
  generalize hA : g' ds S = A at z nb q1 q2
  generalize hB : g ds S = B at z
  cases z with
  | bad r => exact absurd rfl nb
  | refl r => exact ⟨nb, q1, q2⟩
  | gc d d' S' h e b =>
    subst e
    refine ⟨fun z => (nomatch z), fun d1 S1 e v H' qv => ?_, fun C fs S1 e => (nomatch e)⟩
    cases e
    exact q1 _ _ rfl v H' (qv_gc x qv h b)
  | gcx C fs S' h b =>
    refine ⟨fun z => (nomatch z), fun d1 S1 e => (nomatch e), fun C1 fs1 S1 e cls dd H' wl => ?_⟩
    cases e
    exact q2 _ _ _ rfl cls dd H' (wl_gc x wl h b)

/-! ### a new object -/
section
variable {X : Cx} {e : Expr} {pos p : Pos} {es : List Expr} {t : LA} {x : Str} {k : Nat} {f C : Addr} {fd : FuncData} {ps : List Str} {g : F}
/-- what comes of C(..) by its __init__ -/
def mkF (C : Addr) (g : F) : F := fun ds S => (g (.ref S.length :: ds) (S ++ [.ins C []])).bind fun d S1 => match d with
  | .non => .ok (.ref S.length) S1
  | _ => .bad
theorem run_makeL {pins : List (Addr × Obj)} {σ : L2.St} {H : Hp} {s : Shared} {us ds0 : List Value} {vs dvs : List V} {m : List Addr} {S : Sto} {ds dd : List D} {gn : F} (M : Mk X.K C f) (Fn : FnL X.prog X.w X.K X.mg X.base k f fd ps g) (hr : Room (k + 1) X.A) (hb : Binds X.K fd ps ds0) (hd : Vals dvs ds0) (hdd : VRs X.K m H dvs dd)
    (I : Inv X pins σ H s) (x : SR X.K m H S) (r : Vals vs us) (rd : VRs X.K m H vs ds) (hl : (vs ++ dvs).length + 1 = ps.length) (hg : RLe S (gn (ds ++ dd) S) (mkF C g (ds ++ dd) S)) (hp : Hope X σ m H (gn (ds ++ dd) S)) :
    wpAny (model X.prog X.w) X.A (call (.ref C) us) (VPr X pins σ m H (gn (ds ++ dd) S)) X.xe s := by
  -- the instance stands at pa, its dict at pd
  obtain ⟨pd, hpd⟩ : ∃ a, a = s.heap.objs.size := ⟨_, rfl⟩
  obtain ⟨pa, hpa⟩ : ∃ a, a = s.heap.objs.size + 1 := ⟨_, rfl⟩
  have n1 : H pa = none := hpa ▸ I.hok.fresh (Nat.le_succ _)
  have n2 : H pd = none := hpd ▸ I.hok.fresh (Nat.le_refl _)
  have ne : pa ≠ pd := by omega
  have I2 := Inv.made (C := C) I
  rw [← hpa, ← hpd] at I2
  have r2 : Vals (V.ref pa :: (vs ++ dvs)) (Value.ref pa :: (us ++ ds0)) := .cons rfl (r.append hd)
  have n1' : (upd H pd (.own pa)) pa = none := by rw [upd_ne ne]; exact n1
  have x1 : SR X.K m (upd H pd (.own pa)) S := x.fresh n2
  have E1 : Ext m H m (upd H pd (.own pa)) := Ext.fresh n2
  obtain ⟨E2, x2⟩ := x1.snoc (o := .ins C pd []) (ob := .ins C []) n1' fun m' H' _ q => .ins q .nil
  have E3 := E1.trans E2
  have rd2 : VRs X.K (m ++ [pa]) (upd (upd H pd (.own pa)) pa (.ins C pd [])) (V.ref pa :: (vs ++ dvs)) (D.ref S.length :: (ds ++ dd)) := .cons (.ref (by rw [← x.len]; simp)) ((rd.append hdd).ext E3 x.muts)
  have nb : mkF C g (ds ++ dd) S ≠ .bad := fun z => by
    rw [z] at hg
    generalize gn (ds ++ dd) S = A at hg hp
    cases hg with
    | bad => exact hp.1 rfl
    | refl => exact hp.1 rfl
  have hsp : spL X.K g ps.length (V.ref pa :: (vs ++ dvs)) (upd (upd H pd (.own pa)) pa (.ins C pd [])) (fun v H' => ∃ d S', g (.ref S.length :: (ds ++ dd)) (S ++ [.ins C []]) = .ok d S' ∧ QV X.K (m ++ [pa]) (upd (upd H pd (.own pa)) pa (.ins C pd [])) S' d v H')
      (fun cls d H' => ∃ C' fs S', g (.ref S.length :: (ds ++ dd)) (S ++ [.ins C []]) = .exc C' fs S' ∧ WL X.K (m ++ [pa]) (upd (upd H pd (.own pa)) pa (.ins C pd [])) C' fs S' cls d H') :=
    ⟨by rw [List.length_cons]; exact hl, _, _, _, x2, rd2, fun z => nb (by unfold mkF; rw [z]; rfl), fun d S' q v H' z => ⟨d, S', q, z⟩, fun C' fs S' q cls d H' z => ⟨C', fs, S', q, z⟩⟩
  have hl2 : (Value.ref pa :: us ++ ds0).length = ps.length := by rw [List.cons_append, ← r2.length, List.length_cons]; exact hl
  refine wpAny_call (make_map (f := f) I.kIn M.makes M.init (beq_iff_eq.mp M.fn) ?_)
  rw [← hpa, ← hpd]
  refine codeAny_mono (Fn.run _ X.stack _ _ ⟨Value.ref pa :: us, []⟩ (Value.ref pa :: (us ++ ds0)) _ _ _ (hr.make C us []) (I2.env0.make C us []) (hb _ (Value.ref pa :: us) I2.kIn hl2) r2 hsp) fun r s' hq => ?_
  cases r with
  | error e =>
    obtain ⟨C', fs, S', q, w0⟩ : ∃ C' fs S', g (.ref S.length :: (ds ++ dd)) (S ++ [.ins C []]) = .exc C' fs S' ∧ XE X (fun cls d σ' H' => σ' = σ ∧ WL X.K m H C' fs S' cls d H') e s' := by
      have hx := XE.of_call (W := fun cls d σ' H' => σ' = σ ∧ ∃ C' fs S', g (.ref S.length :: (ds ++ dd)) (S ++ [.ins C []]) = .exc C' fs S' ∧ WL X.K m H C' fs S' cls d H') I2 (fun cls d H' w => by
        obtain ⟨C', fs, S', q, w⟩ := w
        exact ⟨rfl, C', fs, S', q, w.ext E3⟩) hq
      obtain ⟨_, _, _, _, _, _, _, _, _, _, _, _, _, _, _, _, _, C', fs, S', q, _⟩ := id hx
      refine ⟨C', fs, S', q, XE.imp hx fun cls d σ' H' w => ?_⟩
      obtain ⟨w1, C2, fs2, S2, q2, w2⟩ := w
      rw [q] at q2
      cases q2
      exact ⟨w1, w2⟩
    have e0 : mkF C g (ds ++ dd) S = .exc C' fs S' := by unfold mkF; rw [q]; rfl
    rw [e0] at hg
    generalize hA : gn (ds ++ dd) S = A at hg hp
    cases hg with
    | bad => exact absurd rfl hp.1
    | refl => exact hp.2 _ _ _ rfl e s' w0
    | gcx _ _ _ h b => exact hp.2 _ _ _ rfl e s' (XE.imp w0 fun cls d σ' H' w => ⟨w.1, wl_gc x w.2 h b⟩)
  | ok fl =>
    cases fl with
    | ret u =>
      obtain ⟨v, H', I3, rv, d, S', q, m', e', x', w'⟩ := I2.after hq
      have hn : d = .non := by
        cases d with
        | non => rfl
        | _ => exact absurd (by unfold mkF; rw [q]; rfl) nb
      subst hn
      cases w'
      obtain rfl : u = Value.none := rv
      have e0 : mkF C g (ds ++ dd) S = .ok (.ref S.length) S' := by unfold mkF; rw [q]; rfl
      have qv : QV X.K m H S' (.ref S.length) (.ref pa) H' := ⟨m', E3.trans e', x', .ref (e'.get (by rw [← x.len]; simp))⟩
      refine ⟨rfl, ?_⟩
      rw [e0] at hg
      generalize hA : gn (ds ++ dd) S = A at hg hp
      cases hg with
      | bad => exact absurd rfl hp.1
      | refl =>
        obtain ⟨m2, z1, z2, z3⟩ := qv
        exact ⟨_, _, rfl, .ref pa, H', m2, I3, rfl, z1, z2, z3⟩
      | gc _ _ _ h e b =>
        subst e
        obtain ⟨m2, z1, z2, z3⟩ := qv_gc x qv h b
        exact ⟨_, _, rfl, .ref pa, H', m2, I3, rfl, z1, z2, z3⟩
    | next => exact False.elim hq
    | brk => exact False.elim hq
    | cont => exact False.elim hq
theorem pel_make {n : Nat} {ds0 : List Value} {dvs : List V} {dd : List D} {gn : F} (M : Mk X.K C f) (Fn : FnL X.prog X.w X.K X.mg X.base k f fd ps g) (hle : ∀ ds S, RLe S (gn ds S) (mkF C g ds S)) (hr : Room (k + 1) X.A) (hg : Gl X x) (hm : X.mg x = some (.ref C)) (hb : Binds X.K fd ps ds0) (hd : Dfl X.K dvs ds0 dd)
    (ha : PAL X (e :: es) t) (hdb : (x == ("__debug__" : Str)) = false := by decide) (he : starEach (e :: es) X.env = (false, eval e X.env) :: starEach es X.env := by rfl) (hpl : (backTo pos (starEach es X.env)).any (·.1) = false := by rfl) (hps : ps.length = n + 1 := by rfl) :
    PEL X (.Call (.Name x p) (e :: es) [] pos) (lCall n gn dd t) := by
  refine ⟨fun pins s σ H m ρ S I x r hp => ?_⟩
  refine wpAny_Call_Name_kw (ld_glob I hg hm ?_ hdb)
  refine PySem.W.callWith_K (h₀ := X.base) I.ok.mod.kin M.kp (run_seqA ha I x r hp fun ds S1 q1 vs us s1 H1 m1 I1 rv e1 x1 w1 r1 hp1 => ⟨I1.kIn, ?_⟩) he hpl
  have hl := hope_if hp1
  rw [if_pos hl] at hp1
  have e0 : lCall n gn dd t ρ S = gn (ds ++ dd) S1 := by unfold lCall; rw [q1, bind_ok, if_pos hl]
  rw [e0]
  exact thn (run_makeL M Fn hr hb hd.vals (hd.rel _ _) I1 x1 rv w1 (by rw [List.length_append, w1.length, (hd.rel m1 H1).length]; omega) (hle _ _) hp1) fun _ _ z => z.left e1
end
end MP

namespace MP
open PySem PySem.Spec PyProof.Rows L2

/-! ### readings of the layer beneath -/
/-- no exception -/
def tL0 (K : PySem.W.Frag) (l : LE) : TE := fun σ H Q => ∃ m ρ S, SR K m H S ∧ ER K m H σ ρ ∧ ∃ d S', l ρ S = .ok d S' ∧ ∀ v H', QV K m H S' d v H' → Q v H'
def tT0 (K : PySem.W.Frag) (l : LT) : TT := fun σ H Q => ∃ m ρ S, SR K m H S ∧ ER K m H σ ρ ∧ ∃ b S', l ρ S = .ok b S' ∧ ∀ H' m', Ext m H m' H' → SR K m' H' S' → Q b H'
theorem PEL.pe {X : Cx} {e : Expr} {l : LE} (h : PEL X e l) : PE X e (tL0 X.K l) := by
  refine ⟨fun pins s σ H Q I ⟨m, ρ, S, x, r, d, S', q, k⟩ => ?_⟩
  have z := h.run pins s σ H m ρ S I x r (by rw [q]; exact Hope.ok)
  rw [q] at z
  refine thn z fun u s' ⟨d', S2, e, v, H', m', I', rv, e', x', w⟩ => ?_
  cases e
  exact ⟨v, H', I', rv, k v H' ⟨m', e', x', w⟩⟩
theorem PTL.pt {X : Cx} {e : Expr} {l : LT} (h : PTL X e l) : PT X e (tT0 X.K l) := by
  refine ⟨fun pins s σ H Q I ⟨m, ρ, S, x, r, d, S', q, k⟩ => ?_⟩
  have z := h.run pins s σ H m ρ S I x r (by rw [q]; exact Hope.ok)
  rw [q] at z
  refine thn z fun u s' ⟨S2, H', m', e, I', e', x'⟩ => ?_
  cases e
  exact ⟨H', I', k H' m' e' x'⟩
theorem PEL.of_pe {X : Cx} {e : Expr} {l : LE} {t : TE} (h : PE X e t) (ht : ∀ σ H m ρ S, SR X.K m H S → ER X.K m H σ ρ → Hope X σ m H (l ρ S) → t σ H (fun v H' => ∃ d S', l ρ S = .ok d S' ∧ QV X.K m H S' d v H')) : PEL X e l :=
  ⟨fun pins s σ H m ρ S I x r hp => thn (h.run pins s σ H _ I (ht σ H m ρ S x r hp)) fun u s' ⟨v, H', I', rv, d, S', q, m', e, x', w⟩ => ⟨d, S', q, v, H', m', I', rv, e, x', w⟩⟩

/-! ### statements -/
inductive Fl where
  | nx (ρ : Ev) | rt (d : D) | bk (ρ : Ev) | ct (ρ : Ev) | ex (C : Addr) (fs : List (Str × D)) (ρ : Ev)
abbrev LS := Ev → Sto → R Fl
/-- behind: slots and heap by the store -/
def SV (K : PySem.W.Frag) (m : List Addr) (H : Hp) (ρ' : Ev) (S' : Sto) (σ' : L2.St) (H' : Hp) : Prop := ∃ m', Ext m H m' H' ∧ SR K m' H' S' ∧ ER K m' H' σ' ρ' ∧ ρ'.length = σ'.length
def WS (K : PySem.W.Frag) (m : List Addr) (H : Hp) (C : Addr) (fs : List (Str × D)) (ρ' : Ev) (S' : Sto) : WX := fun cls d σ' H' =>
  cls = .ref C ∧ ∃ (dd : Addr) (vs : List (Str × V)) (m' : List Addr), d = some dd ∧ H' dd = some (.xd vs) ∧ Ext m H m' H' ∧ SR K m' H' S' ∧ VFs K m' H' vs fs ∧ ER K m' H' σ' ρ' ∧ ρ'.length = σ'.length
/-- the reading: what is wanted at each of the ways out -/
structure HS (X : Cx) (D : Ends) (m : List Addr) (H : Hp) (r : R Fl) : Prop where
  ok : ∃ fl S', r = .ok fl S'
  nx : ∀ ρ' S', r = .ok (.nx ρ') S' → ∀ σ' H', SV X.K m H ρ' S' σ' H' → D.nx σ' H'
  rt : ∀ d S', r = .ok (.rt d) S' → ∀ v H', QV X.K m H S' d v H' → D.rt v H'
  bk : ∀ ρ' S', r = .ok (.bk ρ') S' → ∀ σ' H', SV X.K m H ρ' S' σ' H' → D.bk σ' H'
  ct : ∀ ρ' S', r = .ok (.ct ρ') S' → ∀ σ' H', SV X.K m H ρ' S' σ' H' → D.ct σ' H'
  ex : ∀ C fs ρ' S', r = .ok (.ex C fs ρ') S' → ∀ u s', XE X (WS X.K m H C fs ρ' S') u s' → X.xe u s'
def tSL (X : Cx) (l : LS) : TS := fun D σ H => ∃ m ρ S, SR X.K m H S ∧ ER X.K m H σ ρ ∧ ρ.length = σ.length ∧ HS X D m H (l ρ S)
def PSL (X : Cx) (st : Stmt) (l : LS) : Prop := PS X st (tSL X l)
def PSsL (X : Cx) (st : List Stmt) (l : LS) : Prop := PSs X st (tSL X l)
section
variable {X : Cx} {D : Ends} {m m1 : List Addr} {H H1 : Hp} {r : R Fl} {σ : L2.St} {ρ : Ev} {S S1 : Sto}
theorem SV.left {K : PySem.W.Frag} {ρ' : Ev} {S' : Sto} {σ' : L2.St} {H' : Hp} (e : Ext m H m1 H1) (h : SV K m1 H1 ρ' S' σ' H') : SV K m H ρ' S' σ' H' := by
  obtain ⟨m', e', a, b, c⟩ := h
  exact ⟨m', e.trans e', a, b, c⟩
theorem QV.left {K : PySem.W.Frag} {d : MP.D} {S' : Sto} {v : V} {H' : Hp} (e : Ext m H m1 H1) (h : QV K m1 H1 S' d v H') : QV K m H S' d v H' := by
  obtain ⟨m', e', a, b⟩ := h
  exact ⟨m', e.trans e', a, b⟩
theorem WS.left {K : PySem.W.Frag} {C : Addr} {fs : List (Str × MP.D)} {ρ' : Ev} {S' : Sto} {cls : Value} {d : Option Addr} {σ' : L2.St} {H' : Hp} (e : Ext m H m1 H1) (h : WS K m1 H1 C fs ρ' S' cls d σ' H') : WS K m H C fs ρ' S' cls d σ' H' := by
  obtain ⟨h1, dd, vs, m', h2, h3, h4, h5⟩ := h
  exact ⟨h1, dd, vs, m', h2, h3, e.trans h4, h5⟩
theorem HS.ext (h : HS X D m H r) (e : Ext m H m1 H1) : HS X D m1 H1 r :=
  ⟨h.ok, fun ρ' S' q σ' H' z => h.nx ρ' S' q σ' H' (z.left e), fun d S' q v H' z => h.rt d S' q v H' (z.left e), fun ρ' S' q σ' H' z => h.bk ρ' S' q σ' H' (z.left e), fun ρ' S' q σ' H' z => h.ct ρ' S' q σ' H' (z.left e),
    fun C fs ρ' S' q u s' z => h.ex C fs ρ' S' q u s' (XE.imp z fun _ _ _ _ w => w.left e)⟩
/-- an exception of an expression is one of the statement -/
def liftX {α : Type} (ρ : Ev) (r : R α) (f : α → Sto → R Fl) : R Fl := match r with
  | .ok a S => f a S
  | .exc C fs S => .ok (.ex C fs ρ) S
  | .bad => .bad
theorem HS.hope {α : Type} {r : R α} {f : α → Sto → R Fl} (h : HS X D m H (liftX ρ r f)) (er : ER X.K m H σ ρ) (hl : ρ.length = σ.length) (x : SR X.K m H S) : Hope X σ m H r := by
  cases r with
  | bad => obtain ⟨fl, S', q⟩ := h.ok; cases q
  | ok a S => exact Hope.ok
  | exc C fs S' =>
    refine ⟨fun z => (nomatch z), fun C' fs' S'' q u s' z => ?_⟩
    cases q
    refine h.ex C fs ρ S' rfl u s' (XE.imp z fun cls d σ' H' w => ?_)
    obtain ⟨w0, w1, dd, vs, m', w2, w3, w4, w5, w6⟩ := w
    subst w0
    exact ⟨w1, dd, vs, m', w2, w3, w4, w5, w6, er.ext w4 x.muts, hl⟩
/-- an expression in a statement: what is told of it -/
theorem expr_in {e : Expr} {l : LE} (h : PEL X e l) {pins : List (Addr × Obj)} {s : Shared} (I : Inv X pins σ H s) (x : SR X.K m H S) (er : ER X.K m H σ ρ) (hl : ρ.length = σ.length) {f : MP.D → Sto → R Fl} (hs : HS X D m H (liftX ρ (l ρ S) f)) {Q : Value → Shared → Prop}
    (k : ∀ d S1, l ρ S = .ok d S1 → ∀ v u s1 H1 m1, Inv X pins σ H1 s1 → RelV v u → Ext m H m1 H1 → SR X.K m1 H1 S1 → VR X.K m1 H1 v d → ER X.K m1 H1 σ ρ → HS X D m1 H1 (f d S1) → Q u s1) :
    wpAny (model X.prog X.w) X.A (eval e X.env) Q X.xe s := by
  refine thn (h.run pins s σ H m ρ S I x er (hs.hope er hl x)) fun u s1 ⟨d, S1, q, v, H1, m1, I1, rv, e1, x1, w⟩ => ?_
  rw [q] at hs
  exact k d S1 q v u s1 H1 m1 I1 rv e1 x1 w (er.ext e1 x.muts) (HS.ext hs e1)
theorem test_in {e : Expr} {l : LT} (h : PTL X e l) {pins : List (Addr × Obj)} {s : Shared} (I : Inv X pins σ H s) (x : SR X.K m H S) (er : ER X.K m H σ ρ) (hl : ρ.length = σ.length) {f : Bool → Sto → R Fl} (hs : HS X D m H (liftX ρ (l ρ S) f)) {Q : Bool → Shared → Prop}
    (k : ∀ b S1, l ρ S = .ok b S1 → ∀ s1 H1 m1, Inv X pins σ H1 s1 → Ext m H m1 H1 → SR X.K m1 H1 S1 → ER X.K m1 H1 σ ρ → HS X D m1 H1 (f b S1) → Q b s1) :
    wpAny (model X.prog X.w) X.A (isTrue e X.env (eval e X.env)) Q X.xe s := by
  refine thn (h.run pins s σ H m ρ S I x er (hs.hope er hl x)) fun u s1 ⟨S1, H1, m1, q, I1, e1, x1⟩ => ?_
  rw [q] at hs
  exact k u S1 q s1 H1 m1 I1 e1 x1 (er.ext e1 x.muts) (HS.ext hs e1)
theorem sv_same (x : SR X.K m H S) (er : ER X.K m H σ ρ) (hl : ρ.length = σ.length) : SV X.K m H ρ S σ H := ⟨m, Ext.refl, x, er, hl⟩
end

section
variable {X : Cx} {st : Stmt} {rest : List Stmt} {l l' l1 l2 : LS} {e o i c : Expr} {le lo li : LE} {tc : LT} {pos pos' : Pos} {x : Str}
def lNext : LS := fun ρ S => .ok (.nx ρ) S
def Fl.go (l2 : LS) (fl : Fl) (S1 : Sto) : R Fl := match fl with
  | .nx ρ1 => l2 ρ1 S1
  | fl => .ok fl S1
def lSeq (l1 l2 : LS) : LS := fun ρ S => (l1 ρ S).bind (Fl.go l2)
theorem pss_imp {sts : List Stmt} {t u : TS} (h : PSs X sts t) (k : ∀ D σ H, u D σ H → t D σ H) : PSs X sts u := ⟨fun pins s σ H D I q => h.run pins s σ H D I (k D σ H q)⟩
theorem ps_imp {st : Stmt} {t u : TS} (h : PS X st t) (k : ∀ D σ H, u D σ H → t D σ H) : PS X st u := ⟨fun pins s σ H D I q => h.run pins s σ H D I (k D σ H q)⟩
theorem pssl_nil : PSsL X [] lNext := pss_imp pss_nil fun D σ H ⟨m, ρ, S, x, er, hl, h⟩ => h.nx ρ S rfl σ H (sv_same x er hl)
theorem pssl_one (h : PSL X st l) : PSsL X [st] l := pss_one h
theorem bind_nbad {α β : Type} {r : R α} {f : α → Sto → R β} {b : β} {S' : Sto} (h : r.bind f = .ok b S') : ∃ a S, r = .ok a S ∧ f a S = .ok b S' := by
  cases r with
  | ok a S => exact ⟨a, S, rfl, h⟩
  | exc _ _ _ => cases h
  | bad => cases h
theorem HS.seq {D : Ends} {m : List Addr} {H : Hp} {ρ : Ev} {S : Sto} (h : HS X D m H (lSeq l1 l2 ρ S)) : HS X { D with nx := fun σ' H' => tSL X l2 D σ' H' } m H (l1 ρ S) := by
  obtain ⟨fl, S', q⟩ := h.ok
  obtain ⟨a, S1, q1, q2⟩ := bind_nbad q
  have key : lSeq l1 l2 ρ S = Fl.go l2 a S1 := by unfold lSeq; rw [q1]; rfl
  refine ⟨⟨a, S1, q1⟩, fun ρ' S2 e σ' H' z => ?_, fun d S2 e v H' z => ?_, fun ρ' S2 e σ' H' z => ?_, fun ρ' S2 e σ' H' z => ?_, fun C fs ρ' S2 e u s' z => ?_⟩
  · rw [q1] at e
    cases e
    obtain ⟨m', e', x', er', hl'⟩ := z
    rw [key] at h
    exact ⟨m', ρ', S1, x', er', hl', HS.ext h e'⟩
  · rw [q1] at e
    cases e
    exact h.rt d S1 key v H' z
  · rw [q1] at e
    cases e
    exact h.bk ρ' S1 key σ' H' z
  · rw [q1] at e
    cases e
    exact h.ct ρ' S1 key σ' H' z
  · rw [q1] at e
    cases e
    exact h.ex C fs ρ' S1 key u s' z
theorem pssl_cons (h1 : PSL X st l1) (h2 : PSsL X rest l2) : PSsL X (st :: rest) (lSeq l1 l2) :=
  pss_imp (pss_cons h1 h2) fun D σ H ⟨m, ρ, S, x, er, hl, h⟩ => ⟨m, ρ, S, x, er, hl, h.seq⟩
theorem psl_pass : PSL X (.Pass pos) lNext := ps_imp ps_pass fun D σ H ⟨m, ρ, S, x, er, hl, h⟩ => h.nx ρ S rfl σ H (sv_same x er hl)
def lBrk : LS := fun ρ S => .ok (.bk ρ) S
def lCont : LS := fun ρ S => .ok (.ct ρ) S
theorem psl_break : PSL X (.Break pos) lBrk := ps_imp ps_break fun D σ H ⟨m, ρ, S, x, er, hl, h⟩ => h.bk ρ S rfl σ H (sv_same x er hl)
theorem psl_continue : PSL X (.Continue pos) lCont := ps_imp ps_continue fun D σ H ⟨m, ρ, S, x, er, hl, h⟩ => h.ct ρ S rfl σ H (sv_same x er hl)
/-- an expression whose value is dropped -/
def lExpr (le : LE) : LS := fun ρ S => liftX ρ (le ρ S) fun _ S1 => .ok (.nx ρ) S1
theorem psl_expr (he : PEL X e le) (hs : swapsWith e none pos.line X.env = pure false := by rfl) : PSL X (.Expr e pos) (lExpr le) := by
  refine ⟨fun pins s σ H D I ⟨m, ρ, S, x, er, hl, h⟩ => ?_⟩
  exact wpAny_Expr_any (expr_in he I x er hl h fun d S1 q v u s1 H1 m1 I1 rv e1 x1 w er1 h1 => ⟨σ, H1, I1, h1.nx ρ S1 rfl σ H1 (sv_same x1 er1 hl)⟩) I.quiet hs
def lRet (le : LE) : LS := fun ρ S => liftX ρ (le ρ S) fun d S1 => .ok (.rt d) S1
theorem psl_ret (he : PEL X e le) : PSL X (.Return (some e) pos) (lRet le) := by
  refine ⟨fun pins s σ H D I ⟨m, ρ, S, x, er, hl, h⟩ => ?_⟩
  exact wpAny_Return_some (expr_in he I x er hl h fun d S1 q v u s1 H1 m1 I1 rv e1 x1 w er1 h1 => ⟨v, σ, H1, I1, rv, h1.rt d S1 rfl v H1 (qv_same x1 w)⟩)
def lRetN : LS := fun _ S => .ok (.rt .non) S
theorem psl_retN : PSL X (.Return none pos) lRetN := ps_imp ps_retN fun D σ H ⟨m, ρ, S, x, er, hl, h⟩ => h.rt .non S rfl .non H (qv_same x .non)
def lIfS (tc : LT) (l1 l2 : LS) : LS := fun ρ S => liftX ρ (tc ρ S) fun b S1 => if b = true then l1 ρ S1 else l2 ρ S1
theorem psl_if {a b : List Stmt} (hc : PTL X c tc) (ha : PSsL X a l1) (hb : PSsL X b l2) : PSL X (.If c a b pos) (lIfS tc l1 l2) := by
  refine ⟨fun pins s σ H D I ⟨m, ρ, S, x, er, hl, h⟩ => ?_⟩
  refine wpAny_If (test_in hc I x er hl h fun k S1 q s1 H1 m1 I1 e1 x1 er1 h1 => ?_)
  cases k with
  | true => exact ha.run pins s1 σ H1 D I1 ⟨m1, ρ, S1, x1, er1, hl, h1⟩
  | false => exact hb.run pins s1 σ H1 D I1 ⟨m1, ρ, S1, x1, er1, hl, h1⟩
/-- name = e -/
def lSet (i : Nat) (le : LE) : LS := fun ρ S => liftX ρ (le ρ S) fun d S1 => .ok (.nx (ρ.set i (some d))) S1
theorem psl_set {i : Nat} (hN : X.N.Nodup) (he : PEL X e le) (hi : X.N[i]? = some x := by rfl) (hx : Loc X.env.scope x := by first | exact .inl rfl | exact .inr rfl) (hs : swapsWith e (some (.Name x pos')) pos.line X.env = pure false := by rfl) (hf : X.fn x = true ∨ X.env.scope.names.lookup x = some .local := by first | exact .inl rfl | exact .inr rfl | assumption) :
    PSL X (.Assign [.Name x pos'] e pos) (lSet i le) := by
  refine ⟨fun pins s σ H D I ⟨m, ρ, S, x0, er, hl, h⟩ => ?_⟩
  refine wpAny_Assign_Name (expr_in he I x0 er hl h fun d S1 q v u s1 H1 m1 I1 rv e1 x1 w er1 h1 => ?_) hs
  exact store_ok I1 hN hi hx rv (fun s2 I2 => ⟨_, H1, I2, h1.nx _ S1 rfl _ H1 ⟨m1, Ext.refl, x1, er1.set w, by simp [hl]⟩⟩) hf
end
end MP

namespace MP
open PySem PySem.Spec PyProof.Rows L2

/-! ### while -/
def tTX (X : Cx) (l : LT) : TT := fun σ H Q => ∃ m ρ S, SR X.K m H S ∧ ER X.K m H σ ρ ∧ Hope X σ m H (l ρ S) ∧ ∀ b S', l ρ S = .ok b S' → ∀ H' m', Ext m H m' H' → SR X.K m' H' S' → Q b H'
theorem PTL.ptx {X : Cx} {e : Expr} {l : LT} (h : PTL X e l) : PT X e (tTX X l) := by
  refine ⟨fun pins s σ H Q I ⟨m, ρ, S, x, r, hp, k⟩ => ?_⟩
  exact thn (h.run pins s σ H m ρ S I x r hp) fun u s' ⟨S2, H', m', e, I', e', x'⟩ => ⟨H', I', k u S2 e H' m' e' x'⟩
/-- a loop's turn forgets what was not there ahead of the loop -/
def wk : Ev → Ev → Ev
  | _, [] => []
  | [], _ :: bs => none :: wk [] bs
  | none :: as, _ :: bs => none :: wk as bs
  | some _ :: as, b :: bs => b :: wk as bs
theorem wk_length : ∀ (as bs : Ev), (wk as bs).length = bs.length
  | _, [] => by cases ‹Ev› <;> rfl
  | [], _ :: bs => by simp [wk, wk_length]
  | none :: as, _ :: bs => by simp [wk, wk_length]
  | some _ :: as, b :: bs => by simp [wk, wk_length]
theorem wk_some : ∀ {as bs : Ev} {i : Nat} {d : D}, (wk as bs)[i]? = some (some d) → bs[i]? = some (some d)
  | as, [], i, d, h => by cases as <;> simp [wk] at h
  | [], b :: bs, 0, d, h => by simp [wk] at h
  | [], b :: bs, i + 1, d, h => by
    simp only [wk, List.getElem?_cons_succ] at h ⊢
    exact wk_some h
  | none :: as, b :: bs, 0, d, h => by simp [wk] at h
  | none :: as, b :: bs, i + 1, d, h => by
    simp only [wk, List.getElem?_cons_succ] at h ⊢
    exact wk_some h
  | some _ :: as, b :: bs, 0, d, h => by simpa [wk] using h
  | some _ :: as, b :: bs, i + 1, d, h => by
    simp only [wk, List.getElem?_cons_succ] at h ⊢
    exact wk_some h
theorem SV.wk {K : PySem.W.Frag} {m : List Addr} {H : Hp} {ρ' : Ev} {S' : Sto} {σ' : L2.St} {H' : Hp} (ρ0 : Ev) (h : SV K m H ρ' S' σ' H') : SV K m H (MP.wk ρ0 ρ') S' σ' H' := by
  obtain ⟨m', a, b, c, d⟩ := h
  exact ⟨m', a, b, ⟨fun i x e => c.at_ i x (wk_some e), by rw [wk_length]; exact d⟩, by rw [wk_length]; exact d⟩
def Fl.loop (ρ0 : Ev) (k : LS) (fl : Fl) (S : Sto) : R Fl := match fl with
  | .nx ρ => k (wk ρ0 ρ) S
  | .ct ρ => k (wk ρ0 ρ) S
  | .bk ρ => .ok (.nx (wk ρ0 ρ)) S
  | fl => .ok fl S
def whileG (ρ0 : Ev) (tc : LT) (lb : LS) : Nat → LS
  | 0 => fun _ _ => .bad
  | n + 1 => fun ρ S => liftX ρ (tc ρ S) fun b S1 => if b = true then (lb ρ S1).bind (Fl.loop ρ0 (whileG ρ0 tc lb n)) else .ok (.nx ρ) S1
def lWhile (n : Nat) (tc : LT) (lb : LS) : LS := fun ρ S => whileG ρ tc lb n ρ S
theorem HS.loop {X : Cx} {D : Ends} {m : List Addr} {H : Hp} {l k : LS} {ρ ρ0 : Ev} {S : Sto} (h : HS X D m H ((l ρ S).bind (Fl.loop ρ0 k))) : HS X { D with nx := fun σ' H' => tSL X k D σ' H', ct := fun σ' H' => tSL X k D σ' H', bk := D.nx } m H (l ρ S) := by
  obtain ⟨fl, S', q⟩ := h.ok
  obtain ⟨a, S1, q1, q2⟩ := bind_nbad q
  have key : (l ρ S).bind (Fl.loop ρ0 k) = Fl.loop ρ0 k a S1 := by rw [q1]; rfl
  rw [key] at h
  refine ⟨⟨a, S1, q1⟩, fun ρ' S2 e σ' H' z => ?_, fun d S2 e v H' z => ?_, fun ρ' S2 e σ' H' z => ?_, fun ρ' S2 e σ' H' z => ?_, fun C fs ρ' S2 e u s' z => ?_⟩
  · rw [q1] at e
    cases e
    obtain ⟨m', e', x', er', hl'⟩ := z.wk ρ0
    exact ⟨m', _, S1, x', er', hl', HS.ext h e'⟩
  · rw [q1] at e
    cases e
    exact h.rt d S1 rfl v H' z
  · rw [q1] at e
    cases e
    exact h.nx _ S1 rfl σ' H' (z.wk ρ0)
  · rw [q1] at e
    cases e
    obtain ⟨m', e', x', er', hl'⟩ := z.wk ρ0
    exact ⟨m', _, S1, x', er', hl', HS.ext h e'⟩
  · rw [q1] at e
    cases e
    exact h.ex C fs ρ' S1 rfl u s' z
theorem psl_while {X : Cx} {c : Expr} {body : List Stmt} {tc : LT} {lb : LS} {pos : Pos} (n : Nat) (hp : PassesOwn (model X.prog X.w) X.A X.env X.xe) (hc : PTL X c tc) (hb : PSsL X body lb) : PSL X (.While c body [] pos) (lWhile n tc lb) := by
  refine ps_imp (ps_while hp hc.ptx hb) fun D σ H h => ?_
  obtain ⟨m0, ρ0, S0, x0, er0, hl0, h0⟩ := h
  refine ⟨fun k σ H => tSL X (whileG ρ0 tc lb k) D σ H, ⟨n, m0, ρ0, S0, x0, er0, hl0, h0⟩, ?_⟩
  rintro k σ H ⟨m, ρ, S, x, er, hl, h⟩
  cases k with
  | zero => obtain ⟨fl, S', q⟩ := h.ok; cases q
  | succ k =>
    have h' : HS X D m H (liftX ρ (tc ρ S) fun b S1 => if b = true then (lb ρ S1).bind (Fl.loop ρ0 (whileG ρ0 tc lb k)) else .ok (.nx ρ) S1) := h
    refine ⟨m, ρ, S, x, er, HS.hope h' er hl x, fun b S' q H' m' e x' => ?_⟩
    rw [q] at h'
    have h2 : HS X D m' H' (if b = true then (lb ρ S').bind (Fl.loop ρ0 (whileG ρ0 tc lb k)) else .ok (.nx ρ) S') := HS.ext h' e
    cases b with
    | true =>
      rw [if_pos rfl] at h2 ⊢
      exact ⟨fun σ' H' => tSL X (whileG ρ0 tc lb k) D σ' H', fun σ' H' z => ⟨k, Nat.lt_succ_self _, z⟩, m', ρ, S', x', er.ext e x.muts, hl, h2.loop⟩
    | false =>
      rw [if_neg Bool.false_ne_true] at h2 ⊢
      exact h2.nx ρ S' rfl σ H' (sv_same x' (er.ext e x.muts) hl)

/-! ### what is walked -/
/-- the items, and what must stay of the store meanwhile -/
structure Its' where
  items : List D
  chk : Sto → Prop
abbrev LI := Ev → Sto → R Its'
/-- what a turn hands over: a thing of the layer, or a new tuple of such -/
def YS (K : PySem.W.Frag) (m : List Addr) (H Hx : Hp) (x : V) (H' : Hp) (d : D) : Prop :=
  (H' = Hx ∧ VR K m H x d) ∨ ∃ T ws ds, Hx T = none ∧ H' = upd Hx T (.tup ws) ∧ x = .ref T ∧ d = .tup ds ∧ VRs K m H ws ds
def Ylds (K : PySem.W.Frag) (J : It) (m1 : List Addr) (H1 : Hp) (it : Its') : Prop := ∀ m2 H2 S2 Hx, Ext m1 H1 m2 H2 → SR K m2 H2 S2 → it.chk S2 → (∀ a o, H2 a = some o → Hx a = some o) →
  (∀ (i : Nat) (d : D), it.items[i]? = some d → J.go i Hx ∧ ∀ x H', J.yld i Hx x H' → YS K m2 H2 Hx x H' d) ∧ ∀ i, it.items.length ≤ i → J.stop i Hx
def tIL (X : Cx) (li : LI) : TI := fun σ H Rr => ∃ m ρ S, SR X.K m H S ∧ ER X.K m H σ ρ ∧ Hope X σ m H (li ρ S) ∧ ∀ it S1, li ρ S = .ok it S1 → ∀ J H1 m1, Ext m H m1 H1 → SR X.K m1 H1 S1 → Ylds X.K J m1 H1 it → Rr J H1
def PIL (X : Cx) (tg iter : Expr) (li : LI) : Prop := PI X tg iter (tIL X li)
def iterOf (S : Sto) : D → Option Its'
  | .lst xs => some ⟨xs, fun _ => True⟩
  | .tup xs => some ⟨xs, fun _ => True⟩
  | .str z => some ⟨z.cps.toList.map fun c => .str ⟨#[c]⟩, fun _ => True⟩
  | .ref i => match S[i]? with
    | some (.lst xs) => some ⟨xs, fun S' => S'[i]? = some (.lst xs)⟩
    | _ => none
  | _ => none
def liftI (o : Option Its') (S : Sto) : R Its' := match o with
  | some d => .ok d S
  | none => .bad
def lIter (l : LE) : LI := fun ρ S => (l ρ S).bind fun d S1 => liftI (iterOf S1 d) S1
theorem yl_list {K : PySem.W.Frag} {m1 : List Addr} {H1 : Hp} {a : Addr} {vs : List V} {xs : List D} (mu : ∀ a ∈ m1, Mut (H1 a)) (n : a ∉ m1) (h : Rd H1 a (.lst vs)) (r : VRs K m1 H1 vs xs) : Ylds K (Itl K a) m1 H1 ⟨xs, fun _ => True⟩ := fun m2 H2 S2 Hx e x _ sup => by
  have h2 := e.rd n h
  have h3 : Rd Hx a (.lst vs) := by
    rcases h2 with h2 | ⟨o, h2⟩
    · exact .inl (sup _ _ h2)
    · exact .inr ⟨o, sup _ _ h2⟩
  have r2 := r.ext e mu
  refine ⟨fun i d hi => ?_, fun i hi => ⟨vs, .inl h3, by rw [r.length]; exact hi⟩⟩
  obtain ⟨v, hv, w⟩ := r2.getr hi
  refine ⟨⟨vs, v, .inl h3, hv⟩, fun y H' z => .inl ⟨z.1, ?_⟩⟩
  have := z.2 vs (.inl h3)
  rw [hv] at this
  cases this
  exact w
theorem yl_listK {K : PySem.W.Frag} {m1 : List Addr} {H1 : Hp} {a : Addr} {vs : List V} {xs : List D} (mu : ∀ a ∈ m1, Mut (H1 a)) (h : ∀ H, SqL K H a vs) (r : VRs K m1 H1 vs xs) : Ylds K (Itl K a) m1 H1 ⟨xs, fun _ => True⟩ := fun m2 H2 S2 Hx e x _ sup => by
  have r2 := r.ext e mu
  refine ⟨fun i d hi => ?_, fun i hi => ⟨vs, h _, by rw [r.length]; exact hi⟩⟩
  obtain ⟨v, hv, w⟩ := r2.getr hi
  refine ⟨⟨vs, v, h _, hv⟩, fun y H' z => .inl ⟨z.1, ?_⟩⟩
  have := z.2 vs (h _)
  rw [hv] at this
  cases this
  exact w
theorem yl_ref {K : PySem.W.Frag} {m1 : List Addr} {H1 : Hp} {a : Addr} {xs : List D} {j : Nat} (hj : m1[j]? = some a) : Ylds K (Itl K a) m1 H1 ⟨xs, fun S' => S'[j]? = some (.lst xs)⟩ := fun m2 H2 S2 Hx e x c sup => by
  have z := x.at_ j a _ (e.get hj) c
  cases z with
  | lst h r =>
    rename_i vs
    have h3 : SqL K Hx a vs := SqL.of (sup _ _ h)
    refine ⟨fun i d hi => ?_, fun i hi => ⟨vs, h3, by rw [r.length]; exact hi⟩⟩
    obtain ⟨v, hv, w⟩ := r.getr hi
    refine ⟨⟨vs, v, h3, hv⟩, fun y H' z => .inl ⟨z.1, ?_⟩⟩
    have := z.2 vs h3
    rw [hv] at this
    cases this
    exact w
theorem yl_tup {K : PySem.W.Frag} {m1 : List Addr} {H1 : Hp} {a : Addr} {vs : List V} {xs : List D} (mu : ∀ a ∈ m1, Mut (H1 a)) (h : H1 a = some (.tup vs)) (r : VRs K m1 H1 vs xs) : Ylds K (Itt K a) m1 H1 ⟨xs, fun _ => True⟩ := fun m2 H2 S2 Hx e x _ sup => by
  have h3 : SqT K Hx a vs := SqT.of (sup _ _ (tup_ext e mu h))
  have r2 := r.ext e mu
  refine ⟨fun i d hi => ?_, fun i hi => ⟨vs, h3, by rw [r.length]; exact hi⟩⟩
  obtain ⟨v, hv, w⟩ := r2.getr hi
  refine ⟨⟨vs, v, h3, hv⟩, fun y H' z => .inl ⟨z.1, ?_⟩⟩
  have := z.2 vs h3
  rw [hv] at this
  cases this
  exact w
theorem yl_str {K : PySem.W.Frag} {m1 : List Addr} {H1 : Hp} {z : Str} : Ylds K (L2.Its z) m1 H1 ⟨z.cps.toList.map fun c => .str ⟨#[c]⟩, fun _ => True⟩ := fun m2 H2 S2 Hx e x _ sup => by
  refine ⟨fun i d hi => ?_, fun i hi => by show z.cps.size ≤ i; simpa using hi⟩
  have hl : i < z.cps.size := by
    have := (List.getElem?_eq_some_iff.mp hi).1
    simpa using this
  refine ⟨hl, fun y H' q => .inl ⟨q.1, ?_⟩⟩
  obtain ⟨c, hc, rfl⟩ := q.2
  simp only [List.getElem?_map, Array.getElem?_toList, hc, Option.map_some, Option.some.injEq] at hi
  subst hi
  exact .str _
section
variable {X : Cx} {tg e : Expr} {l : LE} {t : LA} {p pos : Pos} {a b : Expr}
theorem pil_val (he : PEL X e l) : PIL X tg e (lIter l) := by
  refine ⟨fun pins s σ H Rr I ⟨m, ρ, S, x, er, hp, k⟩ => ?_⟩
  refine run_seq he I x er hp fun d S1 q v u s1 H1 m1 I1 rv e1 x1 w er1 hp1 => ?_
  cases q2 : iterOf S1 d with
  | none => rw [q2] at hp1; exact absurd rfl hp1.1
  | some it =>
    have q3 : lIter l ρ S = .ok it S1 := by unfold lIter; rw [q, bind_ok, q2]; rfl
    have K2 := fun J y => k it S1 q3 J H1 m1 e1 x1 y
    cases w with
    | @lst a vs xs n h r =>
      cases q2
      obtain rfl : u = Value.ref a := rv
      obtain ⟨its, rv', pp, hz⟩ := I1.list (.inl h)
      refine wpAny_pyIter_list pp.isList ?_
      refine ⟨s1.heap.objs.size, [s1.heap.objs.size], _, _, H1, rfl, I1.kept (t' := s1.toks) fun b o e => Heap.get?_push_of_some _ e, turn_list a _, ⟨_, Heap.get?_push_size _ rfl, rfl, rfl⟩, fun b hb => ?_, K2 _ (yl_list x1.muts n h r)⟩
      have e : b = s1.heap.objs.size := by simpa using hb
      subst e
      exact I1.fpOk (Nat.le_refl _) (I1.hok.fresh (Nat.le_refl _))
    | @lstK a vs xs ob its n hk h1 h2 h3 h4 h5 r =>
      cases q2
      obtain rfl : u = Value.ref a := rv
      obtain ⟨its, rv', pp, hz⟩ := I1.list (H := H1) (a := a) (.inr ⟨ob, its, n, hk, h1, h2, h3, h4, h5⟩)
      refine wpAny_pyIter_list pp.isList ?_
      refine ⟨s1.heap.objs.size, [s1.heap.objs.size], _, _, H1, rfl, I1.kept (t' := s1.toks) fun b o e => Heap.get?_push_of_some _ e, turn_list a _, ⟨_, Heap.get?_push_size _ rfl, rfl, rfl⟩, fun b hb => ?_, K2 _ (yl_listK x1.muts (fun _ => .inr ⟨ob, _, n, hk, h1, h2, h3, h4, h5⟩) r)⟩
      have e : b = s1.heap.objs.size := by simpa using hb
      subst e
      exact I1.fpOk (Nat.le_refl _) (I1.hok.fresh (Nat.le_refl _))
    | @tup a vs xs h r =>
      cases q2
      obtain rfl : u = Value.ref a := rv
      obtain ⟨its, rv', pp, hz⟩ := I1.tuple (SqT.of h)
      refine wpAny_pyIter_tuple (show s1.heap.IsTuple a its.toArray from pp) ?_
      refine ⟨s1.heap.objs.size, [s1.heap.objs.size], _, _, H1, rfl, I1.kept (t' := s1.toks) fun b o e => Heap.get?_push_of_some _ e, turn_tuple a _, ⟨_, Heap.get?_push_size _ rfl, rfl, rfl⟩, fun b hb => ?_, K2 _ (yl_tup x1.muts h r)⟩
      have e : b = s1.heap.objs.size := by simpa using hb
      subst e
      exact I1.fpOk (Nat.le_refl _) (I1.hok.fresh (Nat.le_refl _))
    | str z =>
      cases q2
      obtain ⟨tk, rfl⟩ := rv
      cases ha : z.cps.all (· < 128)
      · exact wpAny_pyIter_wide ha (pi_one (tk := s1.toks) I1 _ (turn_str _ z tk "str_iterator" (.inr rfl)) ⟨_, Heap.get?_push_size _ rfl, rfl, rfl⟩ (K2 _ yl_str))
      · exact wpAny_pyIter_ascii ha (pi_one (tk := s1.toks) I1 _ (turn_str _ z tk "str_ascii_iterator" (.inl rfl)) ⟨_, Heap.get?_push_size _ rfl, rfl, rfl⟩ (K2 _ yl_str))
    | @ref i a h =>
      dsimp only [iterOf] at q2
      cases q4 : S1[i]? with
      | none => rw [q4] at q2; cases q2
      | some ob =>
        rw [q4] at q2
        cases ob with
        | lst xs =>
          cases q2
          have z := x1.at_ i a _ h q4
          cases z with
          | lst h' r =>
            obtain rfl : u = Value.ref a := rv
            obtain ⟨its, rv', pp, hz⟩ := I1.list (SqL.of h')
            refine wpAny_pyIter_list pp.isList ?_
            refine ⟨s1.heap.objs.size, [s1.heap.objs.size], _, _, H1, rfl, I1.kept (t' := s1.toks) fun b o e => Heap.get?_push_of_some _ e, turn_list a _, ⟨_, Heap.get?_push_size _ rfl, rfl, rfl⟩, fun b hb => ?_, K2 _ (yl_ref h)⟩
            have e : b = s1.heap.objs.size := by simpa using hb
            subst e
            exact I1.fpOk (Nat.le_refl _) (I1.hok.fresh (Nat.le_refl _))
        | dct _ _ => cases q2
        | ins _ _ => cases q2
    | _ => cases q2
/-- range(n) -/
def lRange1 (t : LA) : LI := fun ρ S => (t ρ S).bind fun ds S1 => match ds with
  | [.int j] => if -(2 ^ 62) ≤ j ∧ j < 2 ^ 62 then .ok ⟨(List.range j.toNat).map fun (i : Nat) => .int (i : Int), fun _ => True⟩ S1 else .bad
  | _ => .bad
theorem pil_range1 (hg : Gl X "range") (hm : X.mg "range" = none) (ha : PAL X [a] t) (hs : starEach [a] X.env = [(false, eval a X.env)] := by rfl) : PIL X tg (.Call (.Name "range" p) [a] [] pos) (lRange1 t) := by
  refine ⟨fun pins s σ H Rr I ⟨m, ρ, S, x, er, hp, k⟩ => ?_⟩
  refine Call_ (ld_blt I hg hm boot_range (PyProof.Rows.callWith_type1 (run_seqA ha I x er hp fun ds S1 q1 vs us s1 H1 m1 I1 rv e1 x1 w1 r1 hp1 => ?_) hs rfl))
  cases w1 with
  | nil => exact absurd rfl hp1.1
  | cons w w2 =>
    cases w2 with
    | cons _ _ => cases w <;> exact absurd rfl hp1.1
    | nil =>
      cases w with
      | int j =>
        have hz := hope_if hp1
        have q2 : lRange1 t ρ S = .ok ⟨(List.range j.toNat).map fun (i : Nat) => .int (i : Int), fun _ => True⟩ S1 := by unfold lRange1; rw [q1, bind_ok]; exact if_pos hz
        cases rv with
        | cons r rr =>
          cases rr
          obtain ⟨tk, rfl⟩ := r
          refine call_range_1 (range_it I1 (by omega) (by omega) hz.1 hz.2 (k _ S1 q2 _ H1 m1 e1 x1 fun m2 H2 S2 Hx e x _ sup => ⟨fun i d hi => ?_, fun i hi => ?_⟩))
          · have hl : i < (j - 0).toNat := by
              have := (List.getElem?_eq_some_iff.mp hi).1
              simpa using this
            refine ⟨hl, fun y H' q => .inl ⟨q.1, ?_⟩⟩
            rw [q.2]
            simp only [List.getElem?_map, List.getElem?_range (show i < j.toNat by simpa using hl), Option.map_some, Option.some.injEq] at hi
            subst hi
            rw [Int.zero_add]
            exact .int _
          · show (j - 0).toNat ≤ i
            simpa using hi
      | _ => exact absurd rfl hp1.1
/-- enumerate(a list) -/
def enumD (xs : List D) : List D := (List.range xs.length).zipWith (fun (i : Nat) x => .tup [.int (i : Int), x]) xs
def lEnum (t : LA) : LI := fun ρ S => (t ρ S).bind fun ds S1 => match ds with
  | [.lst xs] => .ok ⟨enumD xs, fun _ => True⟩ S1
  | _ => .bad
theorem enumD_get {xs : List D} {i : Nat} {d : D} (h : (enumD xs)[i]? = some d) : ∃ x, xs[i]? = some x ∧ d = .tup [.int (i : Int), x] := by
  unfold enumD at h
  rw [List.getElem?_zipWith] at h
  cases q : xs[i]? with
  | none => rw [q] at h; cases h2 : (List.range xs.length)[i]? <;> rw [h2] at h <;> cases h
  | some x =>
    have hl := (List.getElem?_eq_some_iff.mp q).1
    rw [q, List.getElem?_range hl] at h
    cases h
    exact ⟨x, rfl, rfl⟩
theorem enumD_length (xs : List D) : (enumD xs).length = xs.length := by simp [enumD]
theorem yl_enum {K : PySem.W.Frag} {m1 : List Addr} {H1 : Hp} {a : Addr} {vs : List V} {xs : List D} (mu : ∀ a ∈ m1, Mut (H1 a)) (n : a ∉ m1) (h : Rd H1 a (.lst vs)) (r : VRs K m1 H1 vs xs) : Ylds K (Ite K a) m1 H1 ⟨enumD xs, fun _ => True⟩ := fun m2 H2 S2 Hx e x _ sup => by
  have h2 := e.rd n h
  have h3 : SqL K Hx a vs := by
    rcases h2 with h2 | ⟨o, h2⟩
    · exact .inl (.inl (sup _ _ h2))
    · exact .inl (.inr ⟨o, sup _ _ h2⟩)
  have r2 := r.ext e mu
  refine ⟨fun i d hi => ?_, fun i hi => ⟨vs, h3, by rw [r.length, ← enumD_length]; exact hi⟩⟩
  obtain ⟨y, hy, rfl⟩ := enumD_get hi
  obtain ⟨v, hv, w⟩ := r2.getr hy
  refine ⟨⟨vs, v, h3, hv⟩, fun z H' q => .inr ?_⟩
  obtain ⟨T, z1, ez, hT, eH, hz⟩ := q
  have := hz vs h3
  rw [hv] at this
  cases this
  exact ⟨T, [.int i, v], _, hT, eH, ez, rfl, .cons (.int _) (.cons w .nil)⟩
theorem pil_enum {elts : List Expr} {kk : Nat} {tpos : Pos} (hg : Gl X "enumerate") (hm : X.mg "enumerate" = none) (ha : PAL X [e] t) (hs : starEach [e] X.env = [(false, eval e X.env)] := by rfl) :
    PIL X (.Tuple elts kk tpos) (.Call (.Name "enumerate" p) [e] [] pos) (lEnum t) := by
  refine ⟨fun pins s σ H Rr I ⟨m, ρ, S, x, er, hp, k⟩ => ?_⟩
  refine Call_ (ld_blt I hg hm boot_enumerate (PyProof.Rows.callWith_type1 (run_seqA ha I x er hp fun ds S1 q1 vs us s1 H1 m1 I1 rv e1 x1 w1 r1 hp1 => ?_) hs rfl))
  cases w1 with
  | nil => exact absurd rfl hp1.1
  | cons w w2 =>
    cases w2 with
    | cons _ _ => cases w <;> exact absurd rfl hp1.1
    | nil =>
      have fin : ∀ {a : Addr} {vs : List V} {xs : List D}, SqL X.K H1 a vs → us = [Value.ref a] → Ylds X.K (Ite X.K a) m1 H1 ⟨enumD xs, fun _ => True⟩ → lEnum t ρ S = .ok ⟨enumD xs, fun _ => True⟩ S1 → wpAny (model X.prog X.w) X.A (call (.type "enumerate") us) (fun itv s₂ => wpAny (model X.prog X.w) X.A (pyIter itv) (PIE X pins σ (.Tuple elts kk tpos) Rr) X.xe s₂) X.xe s1 := by
        intro a vs xs hq hu yl q2
        subst hu
        obtain ⟨its, rv', p', hz⟩ := I1.list hq
        refine call_enumerate_list p'.isList fun h' he hit hsz hk => wpAny_pyIter_enum he ?_
        have I2 : Inv X pins σ H1 { s1 with heap := h' } := I1.kept (t' := s1.toks) hk
        refine ⟨s1.heap.objs.size + 1, [s1.heap.objs.size + 1, s1.heap.objs.size], _, _, H1, rfl, I2, turn_enum a (s1.heap.objs.size + 1) s1.heap.objs.size, ⟨⟨.none, he⟩, hit, Nat.succ_ne_self _⟩, fun b hb => ?_, k _ S1 q2 _ H1 m1 e1 x1 yl⟩
        have e' : b = s1.heap.objs.size + 1 ∨ b = s1.heap.objs.size := by simpa using hb
        have hle : s1.heap.objs.size ≤ b := by
          rcases e' with z | z
          · rw [z]; exact Nat.le_add_right _ _
          · rw [z]; exact Nat.le_refl _
        exact I1.fpOk hle (I1.hok.fresh hle)
      cases w with
      | @lst a vs xs n h r =>
        refine fin (.inl h) ?_ (yl_enum x1.muts n h r) (by unfold lEnum; rw [q1]; rfl)
        cases rv with
        | cons r rr =>
          cases rr
          cases r
          rfl
      | @lstK a vs xs ob its n hk h1 h2 h3 h4 h5 r =>
        refine fin (a := a) (.inr ⟨ob, its, n, hk, h1, h2, h3, h4, h5⟩) ?_ (fun m2 H2 S2 Hx e x _ sup => ?_) (by unfold lEnum; rw [q1]; rfl)
        · cases rv with
          | cons r rr =>
            cases rr
            cases r
            rfl
        · have h3 : SqL X.K Hx a vs := .inr ⟨ob, its, n, hk, h1, h2, h3, h4, h5⟩
          have r2 := r.ext e x1.muts
          refine ⟨fun i d hi => ?_, fun i hi => ⟨vs, h3, by rw [r.length, ← enumD_length]; exact hi⟩⟩
          obtain ⟨y, hy, rfl⟩ := enumD_get hi
          obtain ⟨v, hv, w⟩ := r2.getr hy
          refine ⟨⟨vs, v, h3, hv⟩, fun z H' q => .inr ?_⟩
          obtain ⟨T, z1, ez, hT, eH, hz⟩ := q
          have := hz vs h3
          rw [hv] at this
          cases this
          exact ⟨T, [.int i, v], _, hT, eH, ez, rfl, .cons (.int _) (.cons w .nil)⟩
      | _ => exact absurd rfl hp1.1
end
end MP

namespace MP
open PySem PySem.Spec PyProof.Rows L2

/-! ### targets -/
abbrev GT := D → Ev → Option Ev
abbrev GTs := List D → Ev → Option Ev
def tGL (K : PySem.W.Frag) (ix : List Nat) (g : GT) : TG := fun v σ H Q => ∃ m Hr ρ d ρ', (∀ a xs, Hr a = some (.tup xs) → H a = some (.tup xs)) ∧ VR K m Hr v d ∧ ER K m Hr σ ρ ∧ ρ.length = σ.length ∧ g d ρ = some ρ' ∧
  ∀ σ', ER K m Hr σ' ρ' → ρ'.length = σ'.length → σ'.length = σ.length → (∀ j, j ∉ ix → σ'[j]? = σ[j]?) → Q σ' H
def tGLs (K : PySem.W.Frag) (ix : List Nat) (g : GTs) : TGs := fun vs σ H Q => ∃ m Hr ρ ds ρ', (∀ a xs, Hr a = some (.tup xs) → H a = some (.tup xs)) ∧ VRs K m Hr vs ds ∧ ER K m Hr σ ρ ∧ ρ.length = σ.length ∧ g ds ρ = some ρ' ∧
  ∀ σ', ER K m Hr σ' ρ' → ρ'.length = σ'.length → σ'.length = σ.length → (∀ j, j ∉ ix → σ'[j]? = σ[j]?) → Q σ' H
def PGL (X : Cx) (tg : Expr) (ix : List Nat) (g : GT) : Prop := PG X tg (tGL X.K ix g)
def PGsL (X : Cx) (tgs : List Expr) (ix : List Nat) (g : GTs) : Prop := PGs X tgs (tGLs X.K ix g)
theorem pg_imp {X : Cx} {tg : Expr} {t u : TG} (h : PG X tg t) (k : ∀ v σ H Q, u v σ H Q → t v σ H Q) : PG X tg u := ⟨fun pins s σ H v u' Q I r q => h.run pins s σ H v u' Q I r (k v σ H Q q)⟩
theorem pgs_imp {X : Cx} {tg : List Expr} {t u : TGs} (h : PGs X tg t) (k : ∀ v σ H Q, u v σ H Q → t v σ H Q) : PGs X tg u := ⟨fun pins s σ H v u' Q I r q => h.run pins s σ H v u' Q I r (k v σ H Q q)⟩
def gtName (i : Nat) : GT := fun d ρ => some (ρ.set i (some d))
def gtNil : GTs := fun ds ρ => match ds with
  | [] => some ρ
  | _ :: _ => none
def gtCons (g : GT) (gs : GTs) : GTs := fun ds ρ => match ds with
  | [] => none
  | d :: r => (g d ρ).bind fun ρ' => gs r ρ'
def gtTup (n : Nat) (gs : GTs) : GT := fun d ρ => match d with
  | .tup ds => if ds.length = n then gs ds ρ else none
  | _ => none
section
variable {X : Cx} {pos : Pos} {x : Str} {e : Expr} {es : List Expr}
theorem pgl_name {i : Nat} (hN : X.N.Nodup) (hi : X.N[i]? = some x := by rfl) (hx : Loc X.env.scope x := by first | exact .inl rfl | exact .inr rfl) (hf : X.fn x = true ∨ X.env.scope.names.lookup x = some .local := by first | exact .inl rfl | exact .inr rfl | assumption) : PGL X (.Name x pos) [i] (gtName i) :=
  pg_imp (pg_name hN hi hx hf) fun v σ H Q ⟨m, Hr, ρ, d, ρ', h1, h2, h3, h4, h5, k⟩ => by
    cases h5
    exact k _ (h3.set h2) (by simp [h4]) (by simp) fun j hj => by rw [List.getElem?_set_ne (fun z => hj (by simp [z]))]
theorem pgsl_nil : PGsL X [] [] gtNil := pgs_imp pgs_nil fun vs σ H Q ⟨m, Hr, ρ, ds, ρ', h1, h2, h3, h4, h5, k⟩ => by
  cases h2 with
  | nil => cases h5; exact ⟨rfl, k σ h3 h4 rfl fun _ _ => rfl⟩
  | cons _ _ => cases h5
theorem pgsl_cons {ix ix' : List Nat} {g : GT} {gs : GTs} (h1 : PGL X e ix g) (h2 : PGsL X es ix' gs) (hs : (assignEach (e :: es) X.env).map (·.2) = assign e X.env :: (assignEach es X.env).map (·.2) := by rfl) : PGsL X (e :: es) (ix ++ ix') (gtCons g gs) :=
  pgs_imp (pgs_cons h1 h2 hs) fun vs σ H Q ⟨m, Hr, ρ, ds, ρ', h1, h2, h3, h4, h5, k⟩ => by
    cases h2 with
    | nil => cases h5
    | @cons v d vs ds hv hr =>
      dsimp only [gtCons] at h5
      cases q : g d ρ with
      | none => rw [q] at h5; cases h5
      | some ρ1 =>
        rw [q] at h5
        exact ⟨v, vs, rfl, m, Hr, ρ, d, ρ1, h1, hv, h3, h4, q, fun σ1 e1 l1 l2 k1 => ⟨m, Hr, ρ1, ds, ρ', h1, hr, e1, l1, h5, fun σ2 e2 l3 l4 k2 => k σ2 e2 l3 (l4.trans l2) fun j hj => (k2 j fun z => hj (List.mem_append_right _ z)).trans (k1 j fun z => hj (List.mem_append_left _ z))⟩⟩
theorem pgl_tup {ix : List Nat} {gs : GTs} {n k : Nat} (hc : X.calm = true) (h : PGsL X es ix gs) (hn : (assignEach es X.env).length = n := by rfl) (hst : (assignEach es X.env).findIdx? (·.1) = none := by rfl) : PGL X (.Tuple es k pos) ix (gtTup n gs) :=
  pg_imp (pg_tup (n := n) hc h hn hst) fun v σ H Q ⟨m, Hr, ρ, d, ρ', h1, h2, h3, h4, h5, k⟩ => by
    cases h2 with
    | @tup a vs ds ha hr =>
      dsimp only [gtTup] at h5
      split at h5
      · rename_i hl
        exact ⟨a, vs, rfl, SqT.of (h1 _ _ ha), by rw [hr.length]; exact hl, m, Hr, ρ, ds, ρ', h1, hr, h3, h4, h5, k⟩
      · cases h5
    | _ => cases h5
end

/-! ### for -/
open Classical in
noncomputable def forG (ρ0 : Ev) (chk : Sto → Prop) (g : GT) (lb : LS) : List D → LS
  | [] => fun ρ S => if chk S then .ok (.nx ρ) S else .bad
  | d :: ds => fun ρ S => if chk S then (match g d ρ with
    | some ρ1 => (lb ρ1 S).bind (Fl.loop ρ0 (forG ρ0 chk g lb ds))
    | none => .bad) else .bad
noncomputable def lFor (li : LI) (g : GT) (lb : LS) : LS := fun ρ S => liftX ρ (li ρ S) fun it S1 => forG ρ it.chk g lb it.items ρ S1
theorem ys_vr {K : PySem.W.Frag} {m : List Addr} {H Hx H' : Hp} {x : V} {d : D} (mu : ∀ a ∈ m, Mut (H a)) (h : YS K m H H x H' d) : VR K m H' x d ∧ Ext m H m H' := by
  rcases h with ⟨rfl, h⟩ | ⟨T, ws, ds, hT, rfl, rfl, rfl, r⟩
  · exact ⟨h, Ext.refl⟩
  · exact ⟨.tup upd_same (r.ext (Ext.fresh hT) mu), Ext.fresh hT⟩
theorem psl_for {X : Cx} {tg iter : Expr} {body : List Stmt} {li : LI} {ix : List Nat} {g : GT} {lb : LS} {pos : Pos} (hp : PassesOwn (model X.prog X.w) X.A X.env X.xe) (hc : X.calm = true) (hi : PIL X tg iter li) (hg : PGL X tg ix g) (hb : PSsL X body lb)
    (hs : ∀ x, foldedSetIterable iter X.env x = pure x := by intro _; rfl) : PSL X (.For tg iter body [] pos) (lFor li g lb) := by
  refine ps_imp (ps_for hp hc hi hg hb hs) fun D σ H ⟨m0, ρ0, S0, x0, er0, hl0, h0⟩ => ?_
  have h0' : HS X D m0 H (liftX ρ0 (li ρ0 S0) fun it S1 => forG ρ0 it.chk g lb it.items ρ0 S1) := h0
  refine ⟨m0, ρ0, S0, x0, er0, HS.hope h0' er0 hl0 x0, fun it S1 q J H1 m1 e1 x1 yl => ?_⟩
  rw [q] at h0'
  have h1 : HS X D m1 H1 (forG ρ0 it.chk g lb it.items ρ0 S1) := HS.ext h0' e1
  refine ⟨fun i k σ H => k + i = it.items.length ∧ ∃ m ρ S, Ext m1 H1 m H ∧ SR X.K m H S ∧ ER X.K m H σ ρ ∧ ρ.length = σ.length ∧ HS X D m H (forG ρ0 it.chk g lb (it.items.drop i) ρ S), ⟨it.items.length, by simp, m1, ρ0, S1, Ext.refl, x1, er0.ext e1 x0.muts, hl0, by simpa using h1⟩, ?_⟩
  rintro i k σ H ⟨hk, m, ρ, S, e, x, er, hl, h⟩
  by_cases hi : i < it.items.length
  · have hd : it.items.drop i = it.items[i] :: it.items.drop (i + 1) := List.drop_eq_getElem_cons hi
    rw [hd] at h
    have hchk : it.chk S := by
      by_cases z : it.chk S
      · exact z
      · obtain ⟨fl, S', q⟩ := h.ok
        dsimp only [forG] at q
        rw [if_neg z] at q
        cases q
    dsimp only [forG] at h
    rw [if_pos hchk] at h
    cases hgd : g it.items[i] ρ with
    | none => rw [hgd] at h; obtain ⟨fl, S', q⟩ := h.ok; cases q
    | some ρ1 =>
      rw [hgd] at h
      dsimp only at h
      obtain ⟨y1, y2⟩ := yl m H S H e x hchk fun _ _ z => z
      obtain ⟨go, yy⟩ := y1 i it.items[i] (List.getElem?_eq_getElem hi)
      refine .inr ⟨go, fun σ' H' => ∃ m ρ S, Ext m1 H1 m H' ∧ SR X.K m H' S ∧ ER X.K m H' σ' ρ ∧ ρ.length = σ'.length ∧ HS X D m H' (forG ρ0 it.chk g lb (it.items.drop (i + 1)) ρ S), fun σ' H' z => ⟨k - 1, by omega, by omega, z⟩, fun v H' hy => ?_⟩
      obtain ⟨w, e2⟩ := ys_vr (Hx := H) x.muts (yy v H' hy)
      have x2 : SR X.K m H' S := by
        rcases yy v H' hy with ⟨rfl, _⟩ | ⟨T, ws, ds, hT, rfl, _⟩
        · exact x
        · exact x.fresh hT
      refine ⟨m, H', ρ, it.items[i], ρ1, fun _ _ z => z, w, er.ext e2 x.muts, hl, hgd, fun σ2 er2 hl2 _ _ => ⟨m, ρ1, S, x2, er2, hl2, ?_⟩⟩
      obtain ⟨fl, S', qok⟩ := (HS.ext h e2).ok
      obtain ⟨a, S3, qa, qb⟩ := bind_nbad qok
      -- the ways out, by the place where they lie
      have key : (lb ρ1 S).bind (Fl.loop ρ0 (forG ρ0 it.chk g lb (it.items.drop (i + 1)))) = Fl.loop ρ0 (forG ρ0 it.chk g lb (it.items.drop (i + 1))) a S3 := by rw [qa]; rfl
      have hA := HS.ext h e2
      rw [key] at hA
      refine ⟨⟨a, S3, qa⟩, fun ρ' S2 ee σ' H'' z => ?_, fun d S2 ee v H'' z => ?_, fun ρ' S2 ee σ' H'' z => ?_, fun ρ' S2 ee σ' H'' z => ?_, fun C fs ρ' S2 ee u s' z => ?_⟩
      · rw [qa] at ee
        cases ee
        obtain ⟨m', e', x', er', hl'⟩ := z.wk ρ0
        exact ⟨m', _, S3, (e.trans e2).trans e', x', er', hl', HS.ext hA e'⟩
      · rw [qa] at ee
        cases ee
        exact hA.rt d S3 rfl v H'' z
      · rw [qa] at ee
        cases ee
        exact hA.nx _ S3 rfl σ' H'' (z.wk ρ0)
      · rw [qa] at ee
        cases ee
        obtain ⟨m', e', x', er', hl'⟩ := z.wk ρ0
        exact ⟨m', _, S3, (e.trans e2).trans e', x', er', hl', HS.ext hA e'⟩
      · rw [qa] at ee
        cases ee
        exact hA.ex C fs ρ' S3 rfl u s' z
  · have hd : it.items.drop i = [] := List.drop_eq_nil_of_le (by omega)
    rw [hd] at h
    have hchk : it.chk S := by
      by_cases z : it.chk S
      · exact z
      · obtain ⟨fl, S', q⟩ := h.ok
        dsimp only [forG] at q
        rw [if_neg z] at q
        cases q
    dsimp only [forG] at h
    rw [if_pos hchk] at h
    obtain ⟨y1, y2⟩ := yl m H S H e x hchk fun _ _ z => z
    exact .inl ⟨y2 i (by omega), h.nx ρ S rfl σ H (sv_same x er hl)⟩
end MP

namespace MP
open PySem PySem.Spec PyProof.Rows L2

/-! ### a list that is being made is hidden -/
def hid (H : Hp) (p : Addr) : Hp := fun b => if b = p then none else H b
theorem hid_ne {H : Hp} {a p : Addr} (h : a ≠ p) : hid H p a = H a := if_neg h
theorem hid_same {H : Hp} {p : Addr} : hid H p p = none := if_pos rfl
section
variable {X : Cx} {pins : List (Addr × Obj)} {σ : L2.St} {H : Hp} {s : Shared} {p : Addr} {vs : List V}
theorem hide_inv (I : Inv X pins σ H s) (hD : H p = some (.lst vs)) : ∃ o, Inv X ((p, o) :: pins) σ (hid H p) s ∧ ∀ σ' s' H', Inv X ((p, o) :: pins) σ' H' s' → Inv X pins σ' (upd H' p (.lst vs)) s' ∧ H' p = none := by
  obtain ⟨hz, its, n, rv, ho⟩ : vs.length ≤ sizeLine ∧ ∃ (its : List Value) (n : Nat), Vals vs its ∧ s.heap.get? p = some { cls := .type "list", data := .seq its.toArray n } := I.hok p _ hD
  have ns : ∀ b o, X.s_0.heap.get? b = some o → X.H_0 b = none → b ∉ X.ex → b ≠ p := fun b o q n hx z => by
    have := I.base.free b o q n hx
    rw [z, hD] at this; cases this
  have nt : ∀ b u, H b = some u → (∀ xs, u ≠ .lst xs) → b ≠ p := fun b u q nl z => by
    rw [z, hD] at q
    cases q
    exact nl _ rfl
  have nloc : p ≠ X.env.locals := fun z => by
    have := I.free
    rw [← z, hD] at this; cases this
  have nfs : p ∉ X.fs := fun hb => by
    obtain ⟨_, o, ho', _⟩ := I.ok.funs.mem hb
    have := I.base.free p o ho' (I.ok.frf p hb) fun z => I.ok.exfs p z hb
    rw [hD] at this; cases this
  refine ⟨{ cls := .type "list", data := .seq its.toArray n }, ⟨I.ok, I.os, I.bare, ⟨I.base.keep, I.base.slot, fun b o q n hx => ?_, I.base.there, fun b xs q => ?_, fun b o u q => ?_, fun b ps q => ?_⟩, I.loc, I.cell, ?_, fun x c e => ?_, fun q hq => ?_, fun b u q => ?_, I.len⟩, fun σ' s' H' J => ?_⟩
  · rw [hid_ne (ns b o q n hx)]; exact I.base.free b o q n hx
  · rw [hid_ne (nt b _ (I.base.tups b xs q) fun _ z => nomatch z)]; exact I.base.tups b xs q
  · rw [hid_ne (nt b _ (I.base.frzs b o u q) fun _ z => nomatch z)]; exact I.base.frzs b o u q
  · obtain ⟨more, e⟩ := I.base.tbls b ps q
    exact ⟨more, by rw [hid_ne (nt b _ e fun _ z => nomatch z)]; exact e⟩
  · rw [hid_ne nloc.symm]; exact I.free
  · by_cases hc : c = p
    · rw [hc]; exact hid_same
    · rw [hid_ne hc]; exact I.freeC x c e
  · rcases List.mem_append.mp hq with z | z
    · obtain ⟨a1, a2, a3⟩ := I.pin q (List.mem_append_left _ z)
      refine ⟨a1, ?_, a3⟩
      by_cases hc : q.1 = p
      · rw [hc]; exact hid_same
      · rw [hid_ne hc]; exact a2
    · rcases List.mem_cons.mp z with z | z
      · subst z
        exact ⟨ho, hid_same, nloc, nfs, fun v z => nomatch z⟩
      · obtain ⟨a1, a2, a3⟩ := I.pin q (List.mem_append_right _ z)
        refine ⟨a1, ?_, a3⟩
        by_cases hc : q.1 = p
        · rw [hc]; exact hid_same
        · rw [hid_ne hc]; exact a2
  · have hb : b ≠ p := fun z => by rw [z, hid_same] at q; cases q
    rw [hid_ne hb] at q
    exact (I.hok b u q).stay (fun c v _ z => z) (fun c z => by rw [hid_ne (nt c _ z fun _ z => nomatch z)]; exact z) fun c xs z => by rw [hid_ne (nt c _ z fun _ z => nomatch z)]; exact z
  · obtain ⟨p1, p2, _⟩ := J.pin (p, _) (List.mem_append_right _ List.mem_cons_self)
    have n2 : ∀ b u, H' b = some u → b ≠ p := fun b u q z => by rw [z, p2] at q; cases q
    refine ⟨⟨J.ok, J.os, J.bare, ⟨J.base.keep, J.base.slot, fun b o q n hx => ?_, J.base.there, fun b xs q => ?_, fun b o u q => ?_, fun b ps q => ?_⟩, J.loc, J.cell, ?_, fun x c e => ?_, fun q hq => ?_, fun b u q => ?_, J.len⟩, p2⟩
    · rw [upd_ne (ns b o q n hx)]; exact J.base.free b o q n hx
    · rw [upd_ne (n2 b _ (J.base.tups b xs q))]; exact J.base.tups b xs q
    · rw [upd_ne (n2 b _ (J.base.frzs b o u q))]; exact J.base.frzs b o u q
    · obtain ⟨more, e⟩ := J.base.tbls b ps q
      exact ⟨more, by rw [upd_ne (n2 b _ e)]; exact e⟩
    · rw [upd_ne nloc.symm]; exact J.free
    · have : c ≠ p := fun z => by
        have := I.freeC x c e
        rw [z, hD] at this; cases this
      rw [upd_ne this]; exact J.freeC x c e
    · have hq' : q ∈ X.pn ++ (p, ({ cls := .type "list", data := .seq its.toArray n } : Obj)) :: pins := by
        rcases List.mem_append.mp hq with z | z
        · exact List.mem_append_left _ z
        · exact List.mem_append_right _ (List.mem_cons_of_mem _ z)
      obtain ⟨a1, a2, a3⟩ := J.pin q hq'
      refine ⟨a1, ?_, a3⟩
      have : q.1 ≠ p := fun z => by
        have := (I.pin q hq).2.1
        rw [z, hD] at this; cases this
      rw [upd_ne this]; exact a2
    · by_cases hb : b = p
      · subst hb
        rw [upd_same] at q
        cases q
        exact ⟨hz, its, n, rv, p1⟩
      · rw [upd_ne hb] at q
        exact (J.hok b u q).stay (fun c v _ z => z) (fun c z => by rw [upd_ne (n2 c _ z)]; exact z) fun c xs z => by rw [upd_ne (n2 c _ z)]; exact z
def tHide (t : TE) : TE := fun σ H Q => ∃ p vs, H p = some (.lst vs) ∧ t σ (hid H p) fun v H' => H' p = none → Q v (upd H' p (.lst vs))
def tHideT (t : TT) : TT := fun σ H Q => ∃ p vs, H p = some (.lst vs) ∧ t σ (hid H p) fun v H' => H' p = none → Q v (upd H' p (.lst vs))
theorem pe_hide {e : Expr} {t : TE} (h : PE X e t) : PE X e (tHide t) := by
  refine ⟨fun pins s σ H Q I ⟨p, vs, hp, q⟩ => ?_⟩
  obtain ⟨o, I1, back⟩ := hide_inv I hp
  exact thn (h.run _ s σ _ _ I1 q) fun u s' ⟨v, H', I', rv, q'⟩ => ⟨v, _, (back _ _ _ I').1, rv, q' (back _ _ _ I').2⟩
theorem pts_hide {es : List Expr} {t : TT} (h : PTs X es t) : PTs X es (tHideT t) := by
  refine ⟨fun pins s σ H Q I ⟨p, vs, hp, q⟩ => ?_⟩
  obtain ⟨o, I1, back⟩ := hide_inv I hp
  exact thn (h.run _ s σ _ _ I1 q) fun u s' ⟨H', I', q'⟩ => ⟨_, (back _ _ _ I').1, q' (back _ _ _ I').2⟩
end

/-! ### comprehensions -/
def noex {α : Type} (r : R α) : R α := match r with
  | .exc _ _ _ => .bad
  | r => r
def wipeE (ρ : Ev) : List Nat → Ev
  | [] => ρ
  | i :: r => (wipeE ρ r).set i none
open Classical in
noncomputable def compG (chk : Sto → Prop) (g : GT) (tt : LT) (te : LE) (ρ0 : Ev) : List D → Sto → R (List D)
  | [], S => if chk S then .ok [] S else .bad
  | d :: ds, S => if chk S then (match g d ρ0 with
    | some ρ1 => (noex (tt ρ1 S)).bind fun b S1 => if b = true then (noex (te ρ1 S1)).bind fun y S2 => (compG chk g tt te ρ0 ds S2).bind fun ys S3 => .ok (y :: ys) S3 else compG chk g tt te ρ0 ds S1
    | none => .bad) else .bad
noncomputable def compL (li : LI) (ix : List Nat) (g : GT) (tt : LT) (te : LE) : LA := fun ρ S => (li ρ S).bind fun it S1 => if it.items.length ≤ sizeLine then compG it.chk g tt te (wipeE ρ ix) it.items S1 else .bad
/-- the list as it is; a list of the store -/
noncomputable def lComp (li : LI) (ix : List Nat) (g : GT) (tt : LT) (te : LE) : LE := fun ρ S => (compL li ix g tt te ρ S).bind fun ys S2 => .ok (.lst ys) S2
noncomputable def lCompN (li : LI) (ix : List Nat) (g : GT) (tt : LT) (te : LE) : LE := fun ρ S => (compL li ix g tt te ρ S).bind fun ys S2 => .ok (.ref S2.length) (S2 ++ [.lst ys])
def tYesL : LT := fun _ S => .ok true S
theorem wipeE_some : ∀ {ix : List Nat} {ρ : Ev} {i : Nat} {d : D}, (wipeE ρ ix)[i]? = some (some d) → ρ[i]? = some (some d) ∧ i ∉ ix
  | [], _, _, _, h => ⟨h, by simp⟩
  | j :: r, ρ, i, d, h => by
    by_cases hj : j = i
    · subst hj
      simp only [wipeE] at h
      by_cases hl : j < (wipeE ρ r).length
      · rw [List.getElem?_set_self hl] at h; cases h
      · rw [List.getElem?_eq_none (by simp; omega)] at h; cases h
    · simp only [wipeE] at h
      rw [List.getElem?_set_ne hj] at h
      obtain ⟨a, b⟩ := wipeE_some h
      exact ⟨a, by simp [b]; exact fun z => hj z.symm⟩
theorem wipeE_length (ρ : Ev) : ∀ ix : List Nat, (wipeE ρ ix).length = ρ.length
  | [] => rfl
  | j :: r => by simp [wipeE, wipeE_length ρ r]
theorem ER.wipe {K : PySem.W.Frag} {m : List Addr} {H : Hp} {σ : L2.St} {ρ : Ev} (r : ER K m H σ ρ) (ix : List Nat) : ER K m H (L2.wipe σ ix) (wipeE ρ ix) := ⟨fun i d h => by
  obtain ⟨h1, h2⟩ := wipeE_some h
  obtain ⟨v, h3, h4⟩ := r.at_ i d h1
  exact ⟨v, by rw [wipe_out h2]; exact h3, h4⟩, by rw [wipeE_length, wipe_length]; exact r.len⟩
theorem wipe_eq {σ σ' : L2.St} {ix : List Nat} (hl : σ'.length = σ.length) (h : ∀ j, j ∉ ix → σ'[j]? = σ[j]?) : L2.wipe σ' ix = L2.wipe σ ix := by
  apply List.ext_getElem?
  intro i
  by_cases hi : i ∈ ix
  · have z : ∀ τ : L2.St, τ.length = σ.length → (L2.wipe τ ix)[i]? = if i < σ.length then some none else none := fun τ ht => by
      cases q : (L2.wipe τ ix)[i]? with
      | none =>
        rw [List.getElem?_eq_none_iff, wipe_length, ht] at q
        rw [if_neg (by omega)]
      | some o =>
        have h1 := (List.getElem?_eq_some_iff.mp q).1
        rw [wipe_length, ht] at h1
        rw [if_pos h1]
        cases o with
        | none => rfl
        | some v => exact absurd hi (wipe_some q).2
    rw [z σ' hl, z σ rfl]
  · rw [wipe_out hi, wipe_out hi]
    exact h i hi
end MP

namespace MP
open PySem PySem.Spec PyProof.Rows L2

section
variable {K : PySem.W.Frag} {m : List Addr} {H H' : Hp} {p : Addr} {o : HO} {S : Sto}
theorem hid_upd (h : H p = none) : hid (upd H p o) p = H := by
  funext b
  by_cases e : b = p
  · rw [e, hid_same, h]
  · rw [hid_ne e, upd_ne e]
theorem upd_hid (h : H p = some o) : upd (hid H p) p o = H := by
  funext b
  by_cases e : b = p
  · rw [e, upd_same, h]
  · rw [upd_ne e, hid_ne e]
theorem sup_hid : ∀ a o, hid H p a = some o → H a = some o := fun a o e => by
  have : a ≠ p := fun z => by rw [z, hid_same] at e; cases e
  rwa [hid_ne this] at e
end
/-- what lc_core asks, from the store's words -/
theorem comp_read {X : Cx} {li : LI} {ix : List Nat} {g : GT} {tt : LT} {te : LE} {σ : L2.St} {H : Hp} {m : List Addr} {ρ : Ev} {S : Sto} (x0 : SR X.K m H S) (er0 : ER X.K m H σ ρ) (hp : Hope X σ m H (compL li ix g tt te ρ S)) {Q : VK}
    (hQ : ∀ ys S2, compL li ix g tt te ρ S = .ok ys S2 → ∀ p vs m2 H2, Ext m H m2 H2 → SR X.K m2 H2 S2 → H2 p = none → VRs X.K m2 H2 vs ys → Q (.ref p) (upd H2 p (.lst vs))) :
    tLc (tIL X li) (tGL X.K ix g) (tHideT (tT0 X.K tt)) (tHide (tL0 X.K te)) ix σ H Q := by
  refine ⟨m, ρ, S, x0, er0, hope_seq hp, fun it S1 q1 J H1 m1 e1 x1 yl => ?_⟩
  unfold compL at hp hQ
  rw [q1, bind_ok] at hp hQ
  have hz := hope_if hp
  rw [if_pos hz] at hp hQ
  have er1 := (er0.ext e1 x0.muts).wipe ix
  intro D hD
  -- what holds ahead of turn i: so much is made, the rest gives the rest
  refine ⟨fun i k H => k + i = it.items.length ∧ ∃ (vs : List V) (acc : List MP.D) (m : List Addr) (S : Sto), H D = some (.lst vs) ∧ Ext m1 H1 m (hid H D) ∧ SR X.K m (hid H D) S ∧ VRs X.K m (hid H D) vs acc ∧ acc.length ≤ i ∧
      ∃ ys S2, compG it.chk g tt te (wipeE ρ ix) (it.items.drop i) S = .ok ys S2 ∧ compG it.chk g tt te (wipeE ρ ix) it.items S1 = .ok (acc ++ ys) S2, ⟨it.items.length, by simp, [], [], m1, S1, upd_same, ?_, ?_, .nil, Nat.zero_le _, ?_⟩, ?_⟩
  · rw [hid_upd hD]; exact Ext.refl
  · rw [hid_upd hD]; exact x1
  · cases q : compG it.chk g tt te (wipeE ρ ix) it.items S1 with
    | bad => rw [q] at hp; exact absurd rfl hp.1
    | ok ys S2 => exact ⟨ys, S2, by simpa using q, by simp⟩
    | exc C fs S2 =>
      exfalso
      have : ∀ (l : List MP.D) (S : Sto) C fs S2, compG it.chk g tt te (wipeE ρ ix) l S ≠ .exc C fs S2 := by
        intro l
        induction l with
        | nil =>
          intro S C fs S2 z
          dsimp only [compG] at z
          split at z <;> cases z
        | cons d ds ih =>
          intro S C fs S2 z
          dsimp only [compG] at z
          split at z
          · split at z
            · rename_i ρ1 _
              cases q : tt ρ1 S with
              | bad => rw [q] at z; cases z
              | exc _ _ _ => rw [q] at z; cases z
              | ok b S3 =>
                rw [q] at z
                dsimp only [noex, R.bind] at z
                split at z
                · cases q2 : te ρ1 S3 with
                  | bad => rw [q2] at z; cases z
                  | exc _ _ _ => rw [q2] at z; cases z
                  | ok y S4 =>
                    rw [q2] at z
                    dsimp only [noex, R.bind] at z
                    cases q3 : compG it.chk g tt te (wipeE ρ ix) ds S4 with
                    | bad => rw [q3] at z; cases z
                    | ok _ _ => rw [q3] at z; cases z
                    | exc C' fs' S' => exact ih _ _ _ _ q3
                · exact ih _ _ _ _ z
            · cases z
          · cases z
      exact this _ _ _ _ _ q
  · rintro i k H ⟨hk, vs, acc, m2, S2, hHD, e2, x2, r2, hacc, ys, S3, c1, c2⟩
    have er2 : ER X.K m2 (hid H D) (L2.wipe σ ix) (wipeE ρ ix) := er1.ext e2 x1.muts
    by_cases hi : i < it.items.length
    · have hd : it.items.drop i = it.items[i] :: it.items.drop (i + 1) := List.drop_eq_getElem_cons hi
      rw [hd] at c1
      dsimp only [compG] at c1
      split at c1
      · rename_i hchk
        obtain ⟨y1, _⟩ := yl m2 (hid H D) S2 H e2 x2 hchk sup_hid
        obtain ⟨go, yy⟩ := y1 i it.items[i] (List.getElem?_eq_getElem hi)
        split at c1
        · rename_i ρ1 hg1
          refine .inr ⟨go, fun H' => (k - 1) + (i + 1) = it.items.length ∧ ∃ (vs : List V) (acc : List MP.D) (m : List Addr) (S : Sto), H' D = some (.lst vs) ∧ Ext m1 H1 m (hid H' D) ∧ SR X.K m (hid H' D) S ∧ VRs X.K m (hid H' D) vs acc ∧ acc.length ≤ i + 1 ∧
            ∃ ys S2, compG it.chk g tt te (wipeE ρ ix) (it.items.drop (i + 1)) S = .ok ys S2 ∧ compG it.chk g tt te (wipeE ρ ix) it.items S1 = .ok (acc ++ ys) S2, fun H' z => ⟨k - 1, by omega, z⟩, fun v H' hy => ?_⟩
          -- the turn's heap, D hidden
          obtain ⟨w, e3, hD', x3, hall⟩ : VR X.K m2 (hid H' D) v it.items[i] ∧ Ext m2 (hid H D) m2 (hid H' D) ∧ H' D = some (.lst vs) ∧ SR X.K m2 (hid H' D) S2 ∧ ∀ a xs, hid H' D a = some (.tup xs) → H' a = some (.tup xs) := by
            rcases yy v H' hy with ⟨rfl, w⟩ | ⟨T, ws, ds, hT, rfl, rfl, ed, rw'⟩
            · exact ⟨w, Ext.refl, hHD, x2, fun a xs z => sup_hid a _ z⟩
            · have hTD : T ≠ D := fun z => by rw [z, hHD] at hT; cases hT
              have hTh : hid H D T = none := by rw [hid_ne hTD]; exact hT
              have eh : hid (upd H T (.tup ws)) D = upd (hid H D) T (.tup ws) := by
                funext b
                by_cases hb : b = D
                · rw [hb, hid_same, upd_ne hTD.symm, hid_same]
                · rw [hid_ne hb]
                  by_cases hb2 : b = T
                  · rw [hb2, upd_same, upd_same]
                  · rw [upd_ne hb2, upd_ne hb2, hid_ne hb]
              rw [eh]
              refine ⟨?_, Ext.fresh hTh, by rw [upd_ne hTD.symm]; exact hHD, x2.fresh hTh, fun a xs z => ?_⟩
              · rw [ed]
                exact .tup upd_same (rw'.ext (Ext.fresh hTh) x2.muts)
              · rw [← eh] at z
                exact sup_hid a _ z
          refine ⟨m2, hid H' D, wipeE ρ ix, it.items[i], ρ1, hall, w, er2.ext e3 x2.muts, (er2.len), hg1, fun σ2 er3 hl2 hl3 hj => ⟨wipe_eq hl3 (fun j hjx => ?_) |>.trans ?_, ?_⟩⟩
          · exact hj j hjx
          · -- wiped twice
            exact wipe_eq (wipe_length σ ix) fun j hj => wipe_out hj
          · refine ⟨D, vs, hD', m2, ρ1, S2, x3, er3, ?_⟩
            cases qt : tt ρ1 S2 with
            | bad => rw [qt] at c1; cases c1
            | exc _ _ _ => rw [qt] at c1; cases c1
            | ok b S4 =>
              rw [qt] at c1
              dsimp only [noex, R.bind] at c1
              refine ⟨b, S4, rfl, fun H4 m4 e4 x4 hn4 => ?_⟩
              have r4 := (r2.ext e3 x2.muts).ext e4 x3.muts
              cases b with
              | true =>
                rw [if_pos rfl] at c1
                refine iteT ?_
                refine ⟨D, vs, upd_same, m4, ρ1, S4, by rw [hid_upd hn4]; exact x4, by rw [hid_upd hn4]; exact er3.ext e4 x3.muts, ?_⟩
                cases qe : te ρ1 S4 with
                | bad => rw [qe] at c1; cases c1
                | exc _ _ _ => rw [qe] at c1; cases c1
                | ok y S5 =>
                  rw [qe] at c1
                  dsimp only [noex, R.bind] at c1
                  refine ⟨y, S5, rfl, fun v5 H5 qv5 hn5 => ?_⟩
                  rw [hid_upd hn4] at qv5
                  obtain ⟨m5, e5, x5, w5⟩ := qv5
                  have r5 := r4.ext e5 x4.muts
                  refine ⟨vs, upd_same, ?_, by omega, vs ++ [v5], acc ++ [y], m5, S5, upd_same, ?_, ?_, ?_, by simp; omega, ?_⟩
                  · rw [r5.length]
                    exact Nat.lt_of_le_of_lt hacc (Nat.lt_of_lt_of_le hi hz)
                  · rw [upd_upd, hid_upd hn5]; exact ((e2.trans e3).trans e4).trans e5
                  · rw [upd_upd, hid_upd hn5]; exact x5
                  · rw [upd_upd, hid_upd hn5]; exact r5.append (.cons w5 .nil)
                  · cases qr : compG it.chk g tt te (wipeE ρ ix) (it.items.drop (i + 1)) S5 with
                    | bad => rw [qr] at c1; cases c1
                    | exc _ _ _ => rw [qr] at c1; cases c1
                    | ok zs S6 =>
                      rw [qr] at c1
                      cases c1
                      exact ⟨zs, _, rfl, by rw [c2]; simp⟩
              | false =>
                rw [if_neg Bool.false_ne_true] at c1
                refine iteF ?_
                exact ⟨by omega, vs, acc, m4, S4, upd_same, by rw [hid_upd hn4]; exact (e2.trans e3).trans e4, by rw [hid_upd hn4]; exact x4, by rw [hid_upd hn4]; exact r4, by omega, ys, S3, c1, c2⟩
        · cases c1
      · cases c1
    · have hd : it.items.drop i = [] := List.drop_eq_nil_of_le (by omega)
      rw [hd] at c1
      dsimp only [compG] at c1
      split at c1
      · rename_i hchk
        cases c1
        obtain ⟨_, y2⟩ := yl m2 (hid H D) S2 H e2 x2 hchk sup_hid
        refine .inl ⟨y2 i (by omega), ?_⟩
        have := hQ _ _ c2 D vs m2 (hid H D) (e1.trans e2) x2 hid_same (by simpa using r2)
        rw [upd_hid hHD] at this
        exact this
      · cases c1
section
variable {X : Cx} {elt tg iter : Expr} {ifs : List Expr} {scope : Scope} {own : List (Str × Nat)} {pos : Pos} {li : LI} {g : GT} {tt : LT} {te : LE}
/-- the tests of a comprehension -/
structure PTsL (X : Cx) (ifs : List Expr) (l : LT) : Prop where
  pts : PTs X ifs (tT0 X.K l)
theorem ptsl_nil : PTsL X [] tYesL := ⟨⟨fun pins s σ H Q I ⟨m, ρ, S, x, er, b, S', q, k⟩ => by
  cases q
  exact wpAny_tests_nil ⟨H, I, k H m Ext.refl x⟩⟩⟩
theorem ptsl_one {c : Expr} {t : LT} (h : PTL X c t) : PTsL X [c] t := ⟨pts_one h.pt⟩
theorem pel_lc (hc : X.calm = true) (hN : X.N.Nodup) (hi : PIL X tg iter li) (ok : BlkOk X.N X.env.scope scope own)
    (hg : ∀ (s : Shared) (H : Hp) (C : Addr) (cl : List (Str × Addr)) (fp : List Addr), PGL (X.blk s H scope (compEnvC scope cl C X.env) fp) tg (own.map (·.2)) g) (ht : ∀ (s : Shared) (H : Hp) (C : Addr) (cl : List (Str × Addr)) (fp : List Addr), PTsL (X.blk s H scope (compEnvC scope cl C X.env) fp) ifs tt)
    (he : ∀ (s : Shared) (H : Hp) (C : Addr) (cl : List (Str × Addr)) (fp : List Addr), PEL (X.blk s H scope (compEnvC scope cl C X.env) fp) elt te) (hs : ∀ x, foldedSetIterable iter X.env x = pure x := by intro _; rfl) :
    PEL X (.ListComp elt [⟨tg, iter, ifs, 0⟩] scope pos) (lComp li (own.map (·.2)) g tt te) :=
  .of_pe (pe_lc (g := tGL X.K (own.map fun q : Str × Nat => q.2) g) (tt := tHideT (tT0 X.K tt)) (te := tHide (tL0 X.K te)) hc hN hi ok hg (fun s H C cl fp => pts_hide (ht s H C cl fp).pts) (fun s H C cl fp => pe_hide (he s H C cl fp).pe) hs) fun σ H m ρ S x er hp =>
    comp_read x er (hope_seq hp) fun ys S2 q p vs m2 H2 e x2 hn r => ⟨.lst ys, S2, by unfold lComp; rw [q]; rfl, m2, e.trans (Ext.fresh hn), x2.fresh hn, vr_newLst x2 hn r⟩
theorem pel_lcN (hc : X.calm = true) (hN : X.N.Nodup) (hi : PIL X tg iter li) (ok : BlkOk X.N X.env.scope scope own)
    (hg : ∀ (s : Shared) (H : Hp) (C : Addr) (cl : List (Str × Addr)) (fp : List Addr), PGL (X.blk s H scope (compEnvC scope cl C X.env) fp) tg (own.map (·.2)) g) (ht : ∀ (s : Shared) (H : Hp) (C : Addr) (cl : List (Str × Addr)) (fp : List Addr), PTsL (X.blk s H scope (compEnvC scope cl C X.env) fp) ifs tt)
    (he : ∀ (s : Shared) (H : Hp) (C : Addr) (cl : List (Str × Addr)) (fp : List Addr), PEL (X.blk s H scope (compEnvC scope cl C X.env) fp) elt te) (hs : ∀ x, foldedSetIterable iter X.env x = pure x := by intro _; rfl) :
    PEL X (.ListComp elt [⟨tg, iter, ifs, 0⟩] scope pos) (lCompN li (own.map (·.2)) g tt te) :=
  .of_pe (pe_lc (g := tGL X.K (own.map fun q : Str × Nat => q.2) g) (tt := tHideT (tT0 X.K tt)) (te := tHide (tL0 X.K te)) hc hN hi ok hg (fun s H C cl fp => pts_hide (ht s H C cl fp).pts) (fun s H C cl fp => pe_hide (he s H C cl fp).pe) hs) fun σ H m ρ S x er hp =>
    comp_read x er (hope_seq hp) fun ys S2 q p vs m2 H2 e x2 hn r => ⟨.ref S2.length, S2 ++ [.lst ys], by unfold lCompN; rw [q]; rfl, (qv_newL x2 hn r).left e⟩
/-- name = [..], the name a local -/
theorem psl_setLc {i : Nat} {y : Str} {py spos : Pos} {lv : LE} (hN : X.N.Nodup) (hyl : X.env.scope.names.lookup y = some .local) (hsw : swapsWith (.ListComp elt [⟨tg, iter, ifs, 0⟩] scope pos) (some (.Name y py)) spos.line X.env = pure true) (hc : X.calm = true) (hi : PIL X tg iter li) (ok : BlkOk X.N X.env.scope scope own)
    (hlv : lv = lComp li (own.map (·.2)) g tt te ∨ lv = lCompN li (own.map (·.2)) g tt te)
    (hg : ∀ (s : Shared) (H : Hp) (C : Addr) (cl : List (Str × Addr)) (fp : List Addr), PGL (X.blk s H scope (compEnvC scope cl C X.env) fp) tg (own.map (·.2)) g) (ht : ∀ (s : Shared) (H : Hp) (C : Addr) (cl : List (Str × Addr)) (fp : List Addr), PTsL (X.blk s H scope (compEnvC scope cl C X.env) fp) ifs tt)
    (he : ∀ (s : Shared) (H : Hp) (C : Addr) (cl : List (Str × Addr)) (fp : List Addr), PEL (X.blk s H scope (compEnvC scope cl C X.env) fp) elt te) (hy : X.N[i]? = some y := by rfl) (hs : ∀ x, foldedSetIterable iter X.env x = pure x := by intro _; rfl) :
    PSL X (.Assign [.Name y py] (.ListComp elt [⟨tg, iter, ifs, 0⟩] scope pos) spos) (lSet i lv) := by
  refine ps_imp (ps_setLc (g := tGL X.K (own.map fun q : Str × Nat => q.2) g) (tt := tHideT (tT0 X.K tt)) (te := tHide (tL0 X.K te)) hc hN hy hyl hsw hi ok hg (fun s H C cl fp => pts_hide (ht s H C cl fp).pts) (fun s H C cl fp => pe_hide (he s H C cl fp).pe) hs) fun D σ H ⟨m, ρ, S, x, er, hl, h⟩ => ?_
  have h' : HS X D m H (liftX ρ (lv ρ S) fun d S1 => .ok (.nx (ρ.set i (some d))) S1) := h
  have hp := HS.hope h' er hl x
  have hpc : Hope X σ m H (compL li (own.map (·.2)) g tt te ρ S) := by
    rcases hlv with z | z <;> (rw [z] at hp; exact hope_seq hp)
  refine comp_read x er hpc fun ys S2 q p vs m2 H2 e x2 hn r => ?_
  rcases hlv with z | z
  · have q' : lv ρ S = .ok (.lst ys) S2 := by rw [z]; unfold lComp; rw [q]; rfl
    rw [q'] at h'
    have e' := e.trans (Ext.fresh (o := .lst vs) hn)
    exact h'.nx _ _ rfl _ _ ⟨m2, e', x2.fresh hn, (er.ext e' x.muts).set (vr_newLst x2 hn r), by simp [hl]⟩
  · have q' : lv ρ S = .ok (.ref S2.length) (S2 ++ [.lst ys]) := by rw [z]; unfold lCompN; rw [q]; rfl
    rw [q'] at h'
    obtain ⟨m3, e3, x3, w3⟩ := qv_newL x2 hn r
    have e' := e.trans e3
    exact h'.nx _ _ rfl _ _ ⟨m3, e', x3, (er.ext e' x.muts).set w3, by simp [hl]⟩
end
end MP

namespace MP
open PySem PySem.Spec PyProof.Rows L2

section
variable {K : PySem.W.Frag} {m : List Addr} {H : Hp} {S : Sto}
theorem SR.write (x : SR K m H S) {i : Nat} {a : Addr} {o' : HO} {ob' : O} (hi : m[i]? = some a) (r : Ext m H m (upd H a o') → OR K m (upd H a o') a ob') : Ext m H m (upd H a o') ∧ SR K m (upd H a o') (S.set i ob') := by
  have hm : a ∈ m := List.mem_iff_getElem?.mpr ⟨i, hi⟩
  have e : Ext m H m (upd H a o') := ⟨⟨[], by simp⟩, fun b h => .inl h, fun b u n q => by rw [upd_ne (fun z : b = a => n (by rw [z]; exact hm))]; exact q⟩
  refine ⟨e, x.nd, by simp [x.len], fun j b u h1 h2 => ?_⟩
  by_cases hj : i = j
  · subst hj
    rw [hi] at h1
    cases h1
    have hl : i < S.length := x.len ▸ (List.getElem?_eq_some_iff.mp hi).1
    rw [List.getElem?_set_self hl] at h2
    cases h2
    exact r e
  · rw [List.getElem?_set_ne hj] at h2
    exact (x.at_ j b u h1 h2).ext e x.muts (upd_ne fun z => hj (nodup_get x.nd hi (z ▸ h1)))
theorem VR.ref_at (x : SR K m H S) {v : V} {i : Nat} {ob : O} (r : VR K m H v (.ref i)) (q : S[i]? = some ob) : ∃ a, v = .ref a ∧ m[i]? = some a ∧ OR K m H a ob := by
  cases r with
  | @ref i a h => exact ⟨a, rfl, h, x.at_ i a ob h q⟩
end
def putD (f : Str) (v : D) : List (Str × D) → List (Str × D)
  | [] => [(f, v)]
  | (g, x) :: r => if g = f then (g, v) :: r else (g, x) :: putD f v r
theorem VFs.put {K : PySem.W.Frag} {m : List Addr} {H : Hp} {f : Str} {v : V} {d : D} (h : VR K m H v d) : ∀ {fs : List (Str × V)} {gs : List (Str × D)}, VFs K m H fs gs → VFs K m H (putF f v fs) (putD f d gs)
  | _, _, .nil => .cons h .nil
  | _, _, @VFs.cons _ _ _ g w e vs ds q r => by
    unfold putF putD
    by_cases z : g = f
    · rw [if_pos z, if_pos z]; exact .cons h r
    · rw [if_neg z, if_neg z]; exact .cons q (VFs.put h r)
theorem VFs.length {K : PySem.W.Frag} {m : List Addr} {H : Hp} {fs : List (Str × V)} {gs : List (Str × D)} : VFs K m H fs gs → fs.length = gs.length
  | .nil => rfl
  | .cons _ r => by simp [r.length]
section
variable {X : Cx} {e o i c : Expr} {le lo li : LE} {t : LA} {pos pos' : Pos} {x y f : Str} {C : Addr}
/-- targets = e -/
def lAsg (g : GT) (le : LE) : LS := fun ρ S => liftX ρ (le ρ S) fun d S1 => match g d ρ with
  | some ρ1 => .ok (.nx ρ1) S1
  | none => .bad
theorem psl_asg {tg : Expr} {ix : List Nat} {g : GT} (he : PEL X e le) (hg : PGL X tg ix g) (hs : swapsWithSole [tg] e pos.line X.env = pure false := by rfl) (hw : swappedStores [tg] e X.env = pure none := by rfl)
    (h1 : (assignEach [tg] X.env).map (·.2) = [assign tg X.env] := by rfl) : PSL X (.Assign [tg] e pos) (lAsg g le) := by
  refine ⟨fun pins s σ H D I ⟨m, ρ, S, x, er, hl, h⟩ => ?_⟩
  refine wpAny_Assign_stores (expr_in he I x er hl h fun d S1 q v u s1 H1 m1 I1 rv e1 x1 w er1 h2 => ?_) hs hw
  rw [h1]
  cases hgd : g d ρ with
  | none => rw [hgd] at h2; obtain ⟨fl, S', q⟩ := h2.ok; cases q
  | some ρ1 =>
    rw [hgd] at h2
    exact thn (hg.run pins s1 σ H1 v u (fun σ' H' => D.nx σ' H') I1 rv ⟨m1, H1, ρ, d, ρ1, fun _ _ z => z, w, er1, hl, hgd, fun σ' er' hl' _ _ => h2.nx ρ1 S1 rfl σ' H1 (sv_same x1 er' hl')⟩) fun _ s2 q => q
/-- a, b = e1, e2 with plain local names -/
def tAX (X : Cx) (t : LA) : TA := fun σ H Q => ∃ m ρ S, SR X.K m H S ∧ ER X.K m H σ ρ ∧ Hope X σ m H (t ρ S) ∧ ∀ ds S', t ρ S = .ok ds S' → ∀ vs H' m', Ext m H m' H' → SR X.K m' H' S' → VRs X.K m' H' vs ds → Q vs H'
theorem PAL.pa {es : List Expr} (h : PAL X es t) : PA X es (tAX X t) := ⟨fun pos pins s σ H Q I ⟨m, ρ, S, x, er, hp, k⟩ =>
  thn (h.run pos pins s σ H m ρ S I x er hp) fun us s' ⟨ds, S', vs, H', m', q, I', rv, e', x', w⟩ => ⟨vs, H', I', rv, k ds S' q vs H' m' e' x' w⟩⟩
def lPar (i j : Nat) (t : LA) : LS := fun ρ S => liftX ρ (t ρ S) fun ds S1 => match ds with
  | [a, b] => .ok (.nx ((ρ.set i (some a)).set j (some b))) S1
  | _ => .bad
theorem psl_par {i j : Nat} {a b : Expr} {px py pt : Pos} {kt k2 : Nat} {pt2 : Pos} (hc : X.calm = true) (hN : X.N.Nodup) (ha : PAL X [a, b] t) (hi : X.N[i]? = some x := by rfl) (hj : X.N[j]? = some y := by rfl) (hij : i ≠ j := by decide)
    (hx : X.env.scope.names.lookup x = some .local := by rfl) (hy : X.env.scope.names.lookup y = some .local := by rfl)
    (hw : swappedStores [.Tuple [.Name x px, .Name y py] kt pt] (.Tuple [a, b] k2 pt2) X.env = pure (some [x, y]) := by rfl)
    (hs : swapsWithSole [.Tuple [.Name x px, .Name y py] kt pt] (.Tuple [a, b] k2 pt2) pos.line X.env = pure false := by rfl) :
    PSL X (.Assign [.Tuple [.Name x px, .Name y py] kt pt] (.Tuple [a, b] k2 pt2) pos) (lPar i j t) := by
  refine ps_imp (ps_par hc hN hi hj hij hx hy ha.pa hw hs) fun D σ H ⟨m, ρ, S, x0, er, hl, h⟩ => ?_
  have h' : HS X D m H (liftX ρ (t ρ S) fun ds S1 => match ds with
    | [a, b] => .ok (.nx ((ρ.set i (some a)).set j (some b))) S1
    | _ => .bad) := h
  refine ⟨m, ρ, S, x0, er, HS.hope h' er hl x0, fun ds S1 q vs H1 m1 e1 x1 w => ?_⟩
  rw [q] at h'
  have h2 := HS.ext h' e1
  cases w with
  | nil => obtain ⟨fl, S', q⟩ := h2.ok; cases q
  | cons w1 w2 =>
    cases w2 with
    | nil => obtain ⟨fl, S', q⟩ := h2.ok; cases q
    | cons w2 w3 =>
      cases w3 with
      | cons _ _ => obtain ⟨fl, S', q⟩ := h2.ok; cases q
      | nil =>
        have er1 := er.ext e1 x0.muts
        exact ⟨_, _, rfl, h2.nx _ S1 rfl _ H1 (sv_same x1 ((er1.set w1).set w2) (by simp [hl]))⟩
/-- o.f = e, o an object of the store -/
def stFld (C : Addr) (f : Str) (S : Sto) (r d : D) : Option Sto := match r with
  | .ref i => match S[i]? with
    | some (.ins C' fs) => if C' = C ∧ fs.length < 1000 then some (S.set i (.ins C (putD f d fs))) else none
    | _ => none
  | _ => none
def liftS (o : Option Sto) (ρ : Ev) : R Fl := match o with
  | some S => .ok (.nx ρ) S
  | none => .bad
def lStF (C : Addr) (f : Str) (lo le : LE) : LS := fun ρ S => liftX ρ (le ρ S) fun d S1 => liftX ρ (lo ρ S1) fun r S2 => liftS (stFld C f S2 r d) ρ
theorem psl_fld (cl : Cls X.K C) (na : NoAttr X.K C f) (ho : PEL X o lo) (he : PEL X e le) (hs : swapsWith e (some (.Attribute o f pos')) pos.line X.env = pure false := by rfl) : PSL X (.Assign [.Attribute o f pos'] e pos) (lStF C f lo le) := by
  refine ⟨fun pins s σ H D I ⟨m, ρ, S, x, er, hl, h⟩ => ?_⟩
  refine plainObj_wpAny_Assign_Attribute (expr_in he I x er hl h fun d S1 q v u s1 H1 m1 I1 rv e1 x1 w er1 h1 => expr_in ho I1 x1 er1 hl h1 fun r S2 q2 v2 u2 s2 H2 m2 I2 rv2 e2 x2 w2 er2 h2 => ?_) hs
  cases q3 : stFld C f S2 r d with
  | none => rw [q3] at h2; obtain ⟨fl, S', q⟩ := h2.ok; cases q
  | some S3 =>
    rw [q3] at h2
    unfold stFld at q3
    split at q3
    · rename_i i
      split at q3
      · rename_i C' fs q4
        split at q3
        · rename_i hz
          obtain ⟨hC, hz⟩ := hz
          subst hC
          cases q3
          obtain ⟨a, rfl, ha, orr⟩ := VR.ref_at x2 w2 q4
          obtain rfl : u2 = Value.ref a := rv2
          cases orr with
          | @ins _ dx fs' gs hh rr =>
            refine setattr_ok I2 hh cl na (by rw [rr.length]; exact hz) rv fun s3 I3 => ?_
            obtain ⟨e3, x3⟩ := x2.write (o' := .ins C' dx (putF f v fs')) (ob' := .ins C' (putD f d fs)) ha fun e => .ins upd_same ((rr.put (w.ext e2 x1.muts)).ext e x2.muts)
            exact ⟨σ, _, I3, h2.nx ρ _ rfl σ _ ⟨m2, e3, x3, er2.ext e3 x2.muts, hl⟩⟩
        · cases q3
      · cases q3
    · cases q3
/-- o[i] = e -/
structure PSetL (X : Cx) (g : Sto → D → D → D → Option Sto) : Prop where
  run : ∀ (pins : List (Addr × Obj)) (s : Shared) (σ : L2.St) (H : Hp) (m : List Addr) (S S' : Sto) (o i v : V) (d1 d2 d3 : D) (ov iv u : Value), Inv X pins σ H s → SR X.K m H S → VR X.K m H o d1 → VR X.K m H i d2 → VR X.K m H v d3 → RelV o ov → RelV i iv → RelV v u → g S d1 d2 d3 = some S' →
    wpAny (model X.prog X.w) X.A (setItem ov iv u) (fun _ s' => ∃ H' m', Inv X pins σ H' s' ∧ Ext m H m' H' ∧ SR X.K m' H' S') X.xe s
def stSeq (S : Sto) (r i d : D) : Option Sto := match r, i with
  | .ref j, .int k => match S[j]? with
    | some (.lst xs) => (ixN xs.length k).map fun n => S.set j (.lst (xs.set n d))
    | _ => none
  | _, _ => none
theorem psetl_seq : PSetL X stSeq := ⟨fun pins s σ H m S S' o i v d1 d2 d3 ov iv u I x r1 r2 r3 e1 e2 e3 q => by
  unfold stSeq at q
  split at q
  · rename_i j k
    split at q
    · rename_i xs q1
      cases q2 : ixN xs.length k with
      | none => rw [q2] at q; cases q
      | some n =>
        rw [q2] at q
        cases q
        obtain ⟨a, rfl, ha, orr⟩ := VR.ref_at x r1 q1
        cases r2
        cases orr with
        | @lst vs _ hh rr =>
          obtain ⟨z1, z2⟩ := x.write (o' := .lst (vs.set n v)) (ob' := .lst (xs.set n d3)) ha fun e => .lst upd_same ((rr.set r3 n).ext e x.muts)
          exact thn (set_list pins s σ H _ _ v ov iv u (fun H' => H' = upd H a (.lst (vs.set n v))) I e1 e2 e3 ⟨a, vs, k, n, rfl, rfl, hh, by rw [rr.length]; exact q2, rfl⟩) fun _ s' ⟨H', I', eH⟩ => by
            subst eH
            exact ⟨_, m, I', z1, z2⟩
    · cases q
  · cases q⟩
def lStS (g : Sto → D → D → D → Option Sto) (lo li le : LE) : LS := fun ρ S => liftX ρ (le ρ S) fun d S1 => liftX ρ (lo ρ S1) fun r S2 => liftX ρ (li ρ S2) fun k S3 => liftS (g S3 r k d) ρ
theorem psl_sub {g : Sto → D → D → D → Option Sto} (hg : PSetL X g) (ho : PEL X o lo) (hi : PEL X i li) (he : PEL X e le) (hs : swapsWith e (some (.Subscript o i pos')) pos.line X.env = pure false := by rfl) : PSL X (.Assign [.Subscript o i pos'] e pos) (lStS g lo li le) := by
  refine ⟨fun pins s σ H D I ⟨m, ρ, S, x, er, hl, h⟩ => ?_⟩
  refine wpAny_Assign_Subscript (expr_in he I x er hl h fun d S1 q v u s1 H1 m1 I1 rv e1 x1 w er1 h1 => expr_in ho I1 x1 er1 hl h1 fun r S2 q2 v2 u2 s2 H2 m2 I2 rv2 e2 x2 w2 er2 h2 => expr_in hi I2 x2 er2 hl h2 fun k S3 q3 v3 u3 s3 H3 m3 I3 rv3 e3 x3 w3 er3 h3 => ?_) hs
  cases q4 : g S3 r k d with
  | none => rw [q4] at h3; obtain ⟨fl, S', q⟩ := h3.ok; cases q
  | some S4 =>
    rw [q4] at h3
    exact thn (hg.run pins s3 σ H3 m3 S3 S4 v2 v3 v r k d u2 u3 u I3 x3 (w2.ext e3 x2.muts) w3 ((w.ext e2 x1.muts).ext e3 x2.muts) rv2 rv3 rv q4) fun _ s4 ⟨H4, m4, I4, e4, x4⟩ => ⟨σ, H4, I4, h3.nx ρ S4 rfl σ H4 ⟨m4, e4, x4, er3.ext e4 x3.muts, hl⟩⟩
/-- name op= e -/
def lAug (i : Nat) (g : G2) (le : LE) : LS := fun ρ S => match ρ[i]? with
  | some (some d0) => liftX ρ (le ρ S) fun d S1 => match g S1 d0 d with
    | some r => .ok (.nx (ρ.set i (some r))) S1
    | none => .bad
  | _ => .bad
theorem psl_aug {i : Nat} {op : Operator} {g : G2} (hN : X.N.Nodup) (ho : OpL X (inplaceOp op) g) (he : PEL X e le) (hi : X.N[i]? = some x := by rfl) (hx : Loc X.env.scope x := by first | exact .inl rfl | exact .inr rfl) (hf : X.fn x = true ∨ X.env.scope.names.lookup x = some .local := by first | exact .inl rfl | exact .inr rfl | assumption) :
    PSL X (.AugAssign (.Name x pos') op e pos) (lAug i g le) := by
  refine ⟨fun pins s σ H D I ⟨m, ρ, S, x0, er, hl, h⟩ => ?_⟩
  have h0 : HS X D m H (lAug i g le ρ S) := h
  unfold lAug at h0
  split at h0
  · rename_i d0 q0
    obtain ⟨v, e1, r0⟩ := er.at_ i d0 q0
    obtain ⟨mm, hn, hlk⟩ := I.loc
    have vis : Vis X.env.scope x := by rcases hx with k | k; exact .inl k; exact .inr (.inl k)
    obtain ⟨u, r, l⟩ := hlk i x v hi e1 vis
    refine wpAny_AugAssign_Name ?_
    have go : wpAny (model X.prog X.w) X.A (eval e X.env) (fun w s₂ => wpAny (model X.prog X.w) X.A (inplaceOp op u w) (fun r s₃ => wpAny (model X.prog X.w) X.A (storeName X.env x r) (fun _ => SP X pins D .next) X.xe s₃) X.xe s₂) X.xe s := by
      refine expr_in he I x0 er hl h0 fun d S1 q v2 u2 s1 H1 m1 I1 rv e2 x1 w er1 h1 => ?_
      cases hg : g S1 d0 d with
      | none => rw [hg] at h1; obtain ⟨fl, S', q⟩ := h1.ok; cases q
      | some rd =>
        rw [hg] at h1
        refine thn (ho.run pins s1 σ H1 m1 S1 v v2 d0 d rd u u2 I1 x1 (r0.ext e2 x0.muts) w r rv hg) fun z s2 ⟨v3, H3, m3, I3, rv3, e3, x3, w3⟩ => ?_
        exact store_ok I3 hN hi hx rv3 (fun s4 I4 => ⟨_, H3, I4, h1.nx _ S1 rfl _ H3 ⟨m3, e3, x3, (er1.ext e3 x1.muts).set w3, by simp [hl]⟩⟩) hf
    rcases l with ⟨hk, hm⟩ | ⟨hk, c, hc, hcell⟩
    · exact wpAny_loadName_local I.ok.kind hk hn hm go
    · rcases hk with hk | hk
      · exact wpAny_loadName_cell I.ok.kind hk hc hcell go
      · rcases hx with k | k
        · have : X.env.scope.names.lookup x = some .free := hk
          rw [k] at this; cases this
        · have : X.env.scope.names.lookup x = some .free := hk
          rw [k] at this; cases this
  · obtain ⟨fl, S', q⟩ := h0.ok; cases q
end

/-! ### a def keeps its promise -/
def fin : R Fl → R D
  | .ok (.nx _) S => .ok .non S
  | .ok (.rt d) S => .ok d S
  | .ok (.ex C fs _) S => .exc C fs S
  | _ => .bad
def bodyF (n : Nat) (lb : LS) : F := fun ds S => fin (lb (ds.map some ++ List.replicate (n - ds.length) none) S)
theorem er_start {K : PySem.W.Frag} {m : List Addr} {H : Hp} {vs : List V} {ds : List D} {n : Nat} (r : VRs K m H vs ds) : ER K m H (vs.map some ++ List.replicate (n - vs.length) none) (ds.map some ++ List.replicate (n - ds.length) none) := by
  refine ⟨fun i d h => ?_, by simp [r.length]⟩
  have hi : i < ds.length := by
    by_cases z : i < ds.length
    · exact z
    · rw [List.getElem?_append_right (by simp; omega)] at h
      obtain ⟨_, h2⟩ := List.getElem?_eq_some_iff.mp h
      simp at h2
  rw [List.getElem?_append_left (by simpa using hi), List.getElem?_map] at h
  cases q : ds[i]? with
  | none => rw [q] at h; cases h
  | some d' =>
    rw [q] at h
    cases h
    obtain ⟨v, h1, h2⟩ := r.getr q
    refine ⟨v, ?_, h2⟩
    rw [List.getElem?_append_left (by rw [List.length_map, r.length]; exact hi), List.getElem?_map, h1]
    rfl
/-- as L2.fn_of, with the guards -/
theorem fnG_of {CX : CXT} {P : Program} {w : World} {K : PySem.W.Frag} {mg : Str → Option Value} {base : Heap} {k : Nat} {f : Addr} {name qual : Str} {params : Arguments} {body : List Stmt} {scope : Scope} {dV kV doc pm cdv ct oc : Value} {an od : Option Addr}
    {osl : Array (Option Value)} {N ps : List Str} {sp : Sp} (lk : K.lookup f = some ⟨oc, od, .func (PySem.W.fnOf name qual params body scope dV kV doc pm an cdv ct), osl⟩) (hcd : PySem.W.codeIn K cdv qual = true) (S : FnScope N ps scope)
    (len : ∀ vs H Q E, sp vs H Q E → vs.length = ps.length)
    (hbody : ∀ (A : Around) (outer : List Env) (s : Shared) (H : Hp) (vs : List V) (Q : VK) (E : XK), MP.Room k (A.deeper (envOfC qual scope s.heap.objs.size f cdv)) → sp vs H Q E →
      ∃ t, PSs (cxOf CX P w K mg base N qual scope f cdv A outer s H E) body t ∧ t { nx := fun _ H' => Q .non H', rt := Q } (start N vs) H) :
    MP.FnOk P w K mg base CX (k + 1) f (PySem.W.fnOf name qual params body scope dV kV doc pm an cdv ct) ps sp := by
  refine ⟨len, fun A outer s H args us vs Q E hr e0 hb r hsp => ?_⟩
  have hl := len _ _ _ _ hsp
  have KX : K.In s.heap := e0.mod.kin.keeps fun b o e => (e0.bs b o e).1
  have lim : s.heap.NoLimit := e0.mod.nolimit.keeps fun b o e => (e0.bs b o e).1
  have hkind : ∀ y ∈ ps.zip us, scope.names.lookup y.1 = some .local ∨ (scope.names.lookup y.1 = some .cell ∧ ((cellsFrom (s.heap.objs.size + 1) scope.names []).lookup y.1).isSome = true) := fun ⟨n, v⟩ hy => by
    rcases S.par n (List.of_mem_zip hy).1 with q | q
    · exact .inl q
    · exact .inr ⟨q, PySem.W.cellsFrom_some _ _ _ (.inl q)⟩
  refine codeAny_call_function hr.depth (KX _ _ lk) rfl S.co S.gen rfl (PySem.W.codeRec_of KX hcd) (hb _ _ _ _ ?_)
  refine wpAny_newFunctionEnv_cells S.kind hkind fun env he s1 x => ?_
  subst he
  refine ⟨lim.keeps x.toInCall.keep, codeAny_func ?_⟩
  obtain ⟨t, ht, hq⟩ := hbody A outer s H vs Q E (hr.deeper _) hsp
  have I : Inv (cxOf CX P w K mg base N qual scope f cdv A outer s H E) [] (start N vs) H s1 := inv_start S hr.hd e0 hl r x
  refine wpAny_mono (ht.run [] s1 (start N vs) H _ I hq) (fun fl s' hs => ?_) fun e s' hs => hs
  have fin : ∀ {σ' : L2.St} {H' : Hp} {v : V} {u : Value}, Inv (cxOf CX P w K mg base N qual scope f cdv A outer s H E) [] σ' H' s' → RelV v u → Q v H' → CE outer P w H s Q u s' :=
    fun {σ' H' v u} J rv q => ⟨v, H', J.os, J.bare, J.base, J.hok, rv, q⟩
  cases fl with
  | ret u =>
    obtain ⟨v, σ', H', J, rv, q⟩ := hs
    exact fin J rv q
  | next =>
    obtain ⟨σ', H', J, q⟩ := hs
    exact fin (v := V.non) (u := Value.none) J rfl q
  | brk =>
    obtain ⟨_, _, _, q⟩ := hs
    exact False.elim q
  | cont =>
    obtain ⟨_, _, _, q⟩ := hs
    exact False.elim q
section
variable {P : Program} {w : World} {K : PySem.W.Frag} {mg : Str → Option Value} {base : Heap}
theorem Fun.okG {x qual : Str} {st : Stmt} {f : Addr} {fd : FuncData} {N ps : List Str} {k : Nat} {sp : Sp} (F : Fun K x qual st f fd) (S : FnScope N ps (defScope st)) (len : ∀ vs H Q E, sp vs H Q E → vs.length = ps.length)
    (hbody : ∀ (cdv : Value) (A : Around) (outer : List Env) (s : Shared) (H : Hp) (vs : List V) (Q : VK) (E : XK), MP.Room k (A.deeper (envOfC qual (defScope st) s.heap.objs.size f cdv)) → sp vs H Q E →
      ∃ t, PSs (cxOf (L2.CX P w) P w K mg base N qual (defScope st) f cdv A outer s H E) (defBody st) t ∧ t { nx := fun _ H' => Q .non H', rt := Q } (L2.start N vs) H) : MP.FnOk P w K mg base (L2.CX P w) (k + 1) f fd ps sp := by
  obtain ⟨oc, od, kV, doc, pm, an, cdv, ct, osl, rfl, lk, hcd⟩ := F.ex
  exact fnG_of lk hcd S len fun A outer s H vs Q E hr hsp => hbody cdv A outer s H vs Q E hr hsp
abbrev cxL (P : Program) (w : World) (K : PySem.W.Frag) (mg : Str → Option Value) (base : Heap) (N : List Str) (qual : Str) (sc : Scope) (f : Addr) (cdv : Value) (A : Around) (outer : List Env) (s : Shared) (H : Hp) (E : XK) : Cx := cxOf (L2.CX P w) P w K mg base N qual sc f cdv A outer s H E
theorem Fun.okL {x qual : Str} {st : Stmt} {f : Addr} {fd : FuncData} {N ps : List Str} {k : Nat} {lb : LS} (Fn : Fun K x qual st f fd) (S : FnScope N ps (defScope st))
    (hb : ∀ (cdv : Value) (A : Around) (outer : List Env) (s : Shared) (H : Hp) (E : XK), Room k (A.deeper (envOfC qual (defScope st) s.heap.objs.size f cdv)) → PSsL (cxL P w K mg base N qual (defScope st) f cdv A outer s H E) (defBody st) lb) :
    FnL P w K mg base (k + 1) f fd ps (bodyF N.length lb) := by
  refine Fun.okG Fn S (fun vs H Q E h => h.1) fun cdv A outer s H vs Q E hr h => ⟨_, hb cdv A outer s H E hr, ?_⟩
  obtain ⟨hl, m, S0, ds, x0, r, nb, q1, q2⟩ := h
  refine ⟨m, ds.map some ++ List.replicate (N.length - ds.length) none, S0, x0, ?_, ?_, ?_⟩
  · exact er_start r
  · simp [L2.start, r.length]
  · have hB : ∀ a, bodyF N.length lb ds S0 = a → fin (lb (ds.map some ++ List.replicate (N.length - ds.length) none) S0) = a := fun a h => h
    generalize hA : lb (ds.map some ++ List.replicate (N.length - ds.length) none) S0 = A0 at hB
    have hb0 : bodyF N.length lb ds S0 = fin A0 := by unfold bodyF; rw [hA]
    rw [hb0] at nb q1 q2
    refine ⟨?_, fun ρ' S' e σ' H' ⟨m', e', x', er', _⟩ => ?_, fun d S' e v H' z => ?_, fun ρ' S' e => ?_, fun ρ' S' e => ?_, fun C fs ρ' S' e u s' z => ?_⟩
    · cases A0 with
      | bad => exact absurd rfl nb
      | exc C fs S' => exact absurd rfl nb
      | ok fl S' => exact ⟨fl, S', rfl⟩
    · subst e
      exact q1 .non S' rfl .non H' ⟨m', e', x', .non⟩
    · subst e
      exact q1 d S' rfl v H' z
    · subst e
      exact absurd rfl nb
    · subst e
      exact absurd rfl nb
    · subst e
      refine takes_of (E := E) rfl rfl rfl rfl u s' (XE.imp z fun cls d σ' H' w => ?_)
      obtain ⟨w1, dd, vs', m', w2, w3, w4, w5, w6⟩ := w
      exact q2 C fs S' rfl cls d H' ⟨w1, dd, vs', m', w2, w3, w4, w5, w6.1⟩
end
end MP

namespace MP
open PySem PySem.Spec PyProof.Rows L2

section
variable {X : Cx}
/-! ### ints -/
def gSub : G2 := g2I fun i j => some (.int (i - j))
theorem opl_sub : OpL X (binaryOp .Sub) gSub := opl_int0 op_sub fun i j _ _ _ => .int _
def gMulI : G2 := g2I fun i j => if i.natAbs.log2 + j.natAbs.log2 < 1000000 then some (.int (i * j)) else none
theorem opl_mulI : OpL X (binaryOp .Mult) gMulI := opl_int op_mulW fun i j d e => by
  split at e
  · cases e; exact ⟨‹_›, fun _ _ _ => .int _⟩
  · cases e
def gDiv : G2 := g2I fun i j => if 0 < j ∧ j.natAbs.log2 < 9000 then some (.int (i / j)) else none
theorem opl_div : OpL X (binaryOp .FloorDiv) gDiv := opl_int op_fdivW fun i j d e => by
  split at e
  · cases e; exact ⟨‹_›, fun _ _ _ => .int _⟩
  · cases e
def gMod : G2 := g2I fun i j => if 0 < j then some (.int (i % j)) else none
theorem opl_mod : OpL X (binaryOp .Mod) gMod := opl_int op_mod fun i j d e => by
  split at e
  · cases e; exact ⟨‹_›, fun _ _ _ => .int _⟩
  · cases e
def gPow : G2 := g2I fun i j => if 0 ≤ j ∧ j ≤ 1000000 ∧ i.natAbs < 2 ^ 64 then some (.int (i ^ j.toNat)) else none
theorem opl_pow : OpL X (binaryOp .Pow) gPow := opl_int op_pow fun i j d e => by
  split at e
  · cases e; exact ⟨‹_›, fun _ _ _ => .int _⟩
  · cases e
def gIAdd : G2 := g2I fun i j => some (.int (i + j))
def gISub : G2 := g2I fun i j => some (.int (i - j))
theorem opl_iadd : OpL X (inplaceOp .Add) gIAdd := opl_int0 iop_add fun i j _ _ _ => .int _
theorem opl_isub : OpL X (inplaceOp .Sub) gISub := opl_int0 iop_sub fun i j _ _ _ => .int _
def gLtI : G2 := g2I fun i j => some (.bl (decide (i < j)))
def gLeI : G2 := g2I fun i j => some (.bl (decide (i ≤ j)))
def gGtI : G2 := g2I fun i j => some (.bl (decide (j < i)))
def gGeI : G2 := g2I fun i j => some (.bl (decide (j ≤ i)))
theorem opl_ltI : OpL X (compareOp .Lt) gLtI := opl_int0 op_lt fun i j _ _ _ => .bl _
theorem opl_leI : OpL X (compareOp .LtE) gLeI := opl_int0 op_le fun i j _ _ _ => .bl _
theorem opl_gtI : OpL X (compareOp .Gt) gGtI := opl_int0 op_gt fun i j _ _ _ => .bl _
theorem opl_geI : OpL X (compareOp .GtE) gGeI := opl_int0 op_ge fun i j _ _ _ => .bl _
def gLtS : G2 := g2S fun i j => some (.bl (decide (i.cps.toList < j.cps.toList)))
theorem opl_ltS : OpL X (compareOp .Lt) gLtS := .of op_lt_str fun H m S x y dx dy d q rx ry e => by
  obtain ⟨i, j, e1, e2, e3⟩ := g2S_inv e
  cases e3
  exact ⟨i, j, vw_str rx e1, vw_str ry e2, qv_same q (.bl _)⟩

/-! ### == of data -/
mutual
def toPD : D → Option PyData
  | .non => some .none
  | .bl b => some (.bool b)
  | .int i => some (.int i)
  | .str s => some (.str s)
  | .tup xs => (toPDs xs).map .tuple
  | .lst xs => (toPDs xs).map .list
  | _ => none
def toPDs : List D → Option (List PyData)
  | [] => some []
  | x :: xs => (toPD x).bind fun a => (toPDs xs).map fun b => a :: b
end
section
variable {K : PySem.W.Frag} {m : List Addr} {H : Hp}
mutual
theorem VR.dp {v : V} {d : D} {p : PyData} : VR K m H v d → toPD d = some p → Dp K H v p
  | .non, e => by simp only [toPD] at e; cases e; exact .non
  | .bl b, e => by simp only [toPD] at e; cases e; exact .bl b
  | .int b, e => by simp only [toPD] at e; cases e; exact .int b
  | .str b, e => by simp only [toPD] at e; cases e; exact .str b
  | @VR.tup _ _ _ a vs ds h r, e => by
    simp only [toPD] at e
    cases q : toPDs ds with
    | none => rw [q] at e; cases e
    | some ps => rw [q] at e; cases e; exact .tup (SqT.of h) (r.dps q)
  | @VR.lst _ _ _ a vs ds n h r, e => by
    simp only [toPD] at e
    cases q : toPDs ds with
    | none => rw [q] at e; cases e
    | some ps => rw [q] at e; cases e; exact .lst (.inl h) (r.dps q)
  | @VR.lstK _ _ _ a vs ds o its n hk h1 h2 h3 h4 h5 r, e => by
    simp only [toPD] at e
    cases q : toPDs ds with
    | none => rw [q] at e; cases e
    | some ps => rw [q] at e; cases e; exact .lst (.inr ⟨o, its, n, hk, h1, h2, h3, h4, h5⟩) (r.dps q)
  | .dct _ _ _, e => by simp only [toPD] at e; cases e
  | .dctT _ _ _, e => by simp only [toPD] at e; cases e
  | .obj _ _ _, e => by simp only [toPD] at e; cases e
  | .exn0 _ _, e => by simp only [toPD] at e; cases e
  | .exnD _ _ _ _ _, e => by simp only [toPD] at e; cases e
  | .ref _, e => by simp only [toPD] at e; cases e
theorem VRs.dps {v : List V} {d : List D} {p : List PyData} : VRs K m H v d → toPDs d = some p → DpAll K H v p
  | .nil, e => by simp only [toPDs] at e; cases e; exact .nil
  | @VRs.cons _ _ _ v d vs ds h r, e => by
    simp only [toPDs] at e
    cases q : toPD d with
    | none => rw [q] at e; cases e
    | some a =>
      rw [q] at e
      cases q2 : toPDs ds with
      | none => rw [q2] at e; cases e
      | some b => rw [q2] at e; cases e; exact .cons (h.dp q) (r.dps q2)
end
/-- a place of the store is read one deep -/
theorem VR.dpv {S : Sto} (x : SR K m H S) {v : V} {d : D} {p : PyData} (r : VR K m H v d) (e : toPD (vw S d) = some p) : Dp K H v p := by
  cases r with
  | @ref i a h =>
    dsimp only [vw] at e
    cases q : S[i]? with
    | none => rw [q] at e; simp only [toPD] at e; cases e
    | some ob =>
      rw [q] at e
      have z := x.at_ i a ob h q
      cases z with
      | @lst vs ds hh rr =>
        simp only [toPD] at e
        cases q2 : toPDs ds with
        | none => rw [q2] at e; cases e
        | some ps => rw [q2] at e; cases e; exact .lst (SqL.of hh) (rr.dps q2)
      | dct _ _ => simp only [toPD] at e; cases e
      | dctT _ _ => simp only [toPD] at e; cases e
      | ins _ _ => simp only [toPD] at e; cases e
  | non => exact VR.dp (m := m) .non e
  | bl b => exact VR.dp (m := m) (.bl b) e
  | int b => exact VR.dp (m := m) (.int b) e
  | str b => exact VR.dp (m := m) (.str b) e
  | tup h r => exact VR.dp (m := m) (.tup h r) e
  | lst n h r => exact VR.dp (.lst n h r) e
  | lstK hk h1 h2 h3 h4 h5 r => exact VR.dp (m := m) (.lstK hk h1 h2 h3 h4 h5 r) e
  | dct n h r => exact VR.dp (.dct n h r) e
  | dctT n h r => exact VR.dp (.dctT n h r) e
  | obj n h r => exact VR.dp (.obj n h r) e
  | exn0 n h => exact VR.dp (.exn0 n h) e
  | exnD n nd h hd r => exact VR.dp (.exnD n nd h hd r) e
end
/-- plain things that are told apart at once -/
def eqS : D → D → Option Bool
  | .int i, .int j => some (decide (i = j))
  | .str i, .str j => some (decide (i = j))
  | .bl i, .bl j => some (decide (i = j))
  | .non, .non => some true
  | .non, .int _ | .int _, .non | .non, .str _ | .str _, .non | .non, .bl _ | .bl _, .non => some false
  | .int _, .str _ | .str _, .int _ | .bl _, .str _ | .str _, .bl _ => some false
  | _, _ => none
def eqP (S : Sto) (x y : D) : Option Bool := (toPD (vw S x)).bind fun a => (toPD (vw S y)).bind fun b => if SeqAt.shaped a = true ∧ SeqAt.shaped b = true then some (PyData.eqv a b) else none
def eqD (S : Sto) (x y : D) : Option Bool := (eqS x y).or (eqP S x y)
def gEq : G2 := fun S x y => (eqD S x y).map .bl
def gNe : G2 := fun S x y => (eqD S x y).map fun b => .bl (!b)
theorem eqS_rEq {K : PySem.W.Frag} {m : List Addr} {H : Hp} {x y : V} {dx dy : D} {b : Bool} (rx : VR K m H x dx) (ry : VR K m H y dy) (h : eqS dx dy = some b) : scal x y = true ∧ decide (x = y) = b := by
  cases rx <;> cases ry <;> simp only [eqS] at h <;> (try cases h) <;> refine ⟨rfl, ?_⟩ <;> simp
theorem eqP_inv {S : Sto} {x y : D} {b : Bool} (h : eqP S x y = some b) : ∃ p q, toPD (vw S x) = some p ∧ toPD (vw S y) = some q ∧ SeqAt.shaped p = true ∧ SeqAt.shaped q = true ∧ PyData.eqv p q = b := by
  unfold eqP at h
  cases q1 : toPD (vw S x) with
  | none => rw [q1] at h; cases h
  | some p =>
    rw [q1] at h
    cases q2 : toPD (vw S y) with
    | none => rw [q2] at h; cases h
    | some q =>
      rw [q2] at h
      dsimp only [Option.bind] at h
      split at h
      · rename_i z
        cases h
        exact ⟨p, q, rfl, rfl, z.1, z.2, rfl⟩
      · cases h
theorem opl_eq (hu : X.A.units + 64 < cLine) : OpL X (compareOp .Eq) gEq := ⟨fun pins s σ H m S x y dx dy d v u I q rx ry ex ey e => by
  unfold gEq eqD at e
  cases z : eqS dx dy with
  | some b =>
    rw [z] at e
    cases e
    obtain ⟨h1, h2⟩ := eqS_rEq rx ry z
    exact thn (op_eq pins s σ H x y v u _ I ex ey ⟨h1, by rw [h2]; exact qv_same q (.bl b)⟩) fun _ _ z => vp_of z
  | none =>
    rw [z] at e
    cases z2 : eqP S dx dy with
    | none => rw [z2] at e; cases e
    | some b =>
      rw [z2] at e
      cases e
      obtain ⟨p, p', h1, h2, h3, h4, h5⟩ := eqP_inv z2
      exact thn (op_eqD hu pins s σ H x y v u _ I ex ey ⟨p, p', rx.dpv q h1, ry.dpv q h2, h3, h4, by rw [h5]; exact qv_same q (.bl b)⟩) fun _ _ z => vp_of z⟩
theorem opl_ne (hu : X.A.units + 64 < cLine) : OpL X (compareOp .NotEq) gNe := ⟨fun pins s σ H m S x y dx dy d v u I q rx ry ex ey e => by
  unfold gNe eqD at e
  cases z : eqS dx dy with
  | some b =>
    rw [z] at e
    cases e
    obtain ⟨h1, h2⟩ := eqS_rEq rx ry z
    exact thn (op_ne pins s σ H x y v u _ I ex ey ⟨h1, by rw [h2]; exact qv_same q (.bl _)⟩) fun _ _ z => vp_of z
  | none =>
    rw [z] at e
    cases z2 : eqP S dx dy with
    | none => rw [z2] at e; cases e
    | some b =>
      rw [z2] at e
      cases e
      obtain ⟨p, p', h1, h2, h3, h4, h5⟩ := eqP_inv z2
      exact thn (op_neD hu pins s σ H x y v u _ I ex ey ⟨p, p', rx.dpv q h1, ry.dpv q h2, h3, h4, by rw [h5]; exact qv_same q (.bl _)⟩) fun _ _ z => vp_of z⟩
/-- is None -/
def isNonD : D → Bool
  | .non => true
  | _ => false
def gIsN : G2 := fun _ x y => match y with
  | .non => some (.bl (isNonD x))
  | _ => none
def gNotN : G2 := fun _ x y => match y with
  | .non => some (.bl (!isNonD x))
  | _ => none
theorem vr_non {K : PySem.W.Frag} {m : List Addr} {H : Hp} {v : V} {d : D} (r : VR K m H v d) : decide (v = .non) = isNonD d := by
  cases r <;> simp [isNonD]
theorem opl_isN : OpL X (compareOp .Is) gIsN := .of op_isN fun H m S x y dx dy d q rx ry e => by
  unfold gIsN at e
  split at e
  · cases e
    cases ry
    exact ⟨rfl, by rw [vr_non rx]; exact qv_same q (.bl _)⟩
  · cases e
theorem opl_notN : OpL X (compareOp .IsNot) gNotN := .of op_notN fun H m S x y dx dy d q rx ry e => by
  unfold gNotN at e
  split at e
  · cases e
    cases ry
    exact ⟨rfl, by rw [vr_non rx]; exact qv_same q (.bl _)⟩
  · cases e

/-! ### built-ins -/
def gLen : GC := fun S ds => match ds with
  | [d] => match vw S d with
    | .lst xs => some (.int xs.length)
    | .tup xs => some (.int xs.length)
    | .str z => if z.length ≤ sizeLine then some (.int z.length) else none
    | _ => none
  | _ => none
theorem VRs.one {K : PySem.W.Frag} {m : List Addr} {H : Hp} {vs : List V} {d : D} (r : VRs K m H vs [d]) : ∃ v, vs = [v] ∧ VR K m H v d := by
  cases r with
  | cons h r => cases r; exact ⟨_, rfl, h⟩
theorem VRs.two {K : PySem.W.Frag} {m : List Addr} {H : Hp} {vs : List V} {d e : D} (r : VRs K m H vs [d, e]) : ∃ v w, vs = [v, w] ∧ VR K m H v d ∧ VR K m H w e := by
  cases r with
  | cons h r =>
    cases r with
    | cons h' r => cases r; exact ⟨_, _, rfl, h, h'⟩
theorem cl_len : CallL X (.builtin "len") gLen := .of call_len fun H m S xs ds d q r e => by
  unfold gLen at e
  split at e
  · rename_i d0
    obtain ⟨v, rfl, rv⟩ := r.one
    split at e
    · rename_i ys e1
      cases e
      obtain ⟨a, vs, rfl, h1, r1⟩ := vw_lst q rv e1
      exact ⟨_, ys.length, rfl, .inl ⟨vs, h1, r1.length.symm⟩, qv_same q (.int _)⟩
    · rename_i ys e1
      cases e
      obtain ⟨a, vs, rfl, h1, r1⟩ := vw_tup rv e1
      exact ⟨_, ys.length, rfl, .inr ⟨vs, SqT.of h1, r1.length.symm⟩, qv_same q (.int _)⟩
    · rename_i z e1
      split at e
      · cases e
        cases vw_str rv e1
        exact ⟨_, z.length, rfl, ⟨‹_›, rfl⟩, qv_same q (.int _)⟩
      · cases e
    · cases e
  · cases e
def gAbs : GC := fun _ ds => match ds with
  | [.int i] => some (.int (if i < 0 then -i else i))
  | _ => none
theorem cl_abs : CallL X (.builtin "abs") gAbs := .of call_abs fun H m S xs ds d q r e => by
  unfold gAbs at e
  split at e
  · cases e
    obtain ⟨v, rfl, rv⟩ := r.one
    cases rv
    exact ⟨_, rfl, qv_same q (.int _)⟩
  · cases e
def gMin2 : GC := fun _ ds => match ds with
  | [.int i, .int j] => some (.int (if j < i then j else i))
  | _ => none
theorem cl_min2 (hc : X.calm = true) : CallL X (.builtin "min") gMin2 := .of (call_min2 hc) fun H m S xs ds d q r e => by
  unfold gMin2 at e
  split at e
  · cases e
    obtain ⟨v, w, rfl, rv, rw'⟩ := r.two
    cases rv
    cases rw'
    exact ⟨_, _, rfl, qv_same q (.int _)⟩
  · cases e
def gMax2 : GC := fun _ ds => match ds with
  | [.int i, .int j] => some (.int (if j > i then j else i))
  | _ => none
theorem cl_max2 (hc : X.calm = true) : CallL X (.builtin "max") gMax2 := .of (call_max2 hc) fun H m S xs ds d q r e => by
  unfold gMax2 at e
  split at e
  · cases e
    obtain ⟨v, w, rfl, rv, rw'⟩ := r.two
    cases rv
    cases rw'
    exact ⟨_, _, rfl, qv_same q (.int _)⟩
  · cases e
def blsOf : List D → Option (List Bool)
  | [] => some []
  | .bl b :: r => (blsOf r).map fun bs => b :: bs
  | _ => none
theorem vrs_bls {K : PySem.W.Frag} {m : List Addr} {H : Hp} : ∀ {vs : List V} {ds : List D} {bs : List Bool}, VRs K m H vs ds → blsOf ds = some bs → vs = bs.map V.bl
  | _, _, bs, .nil, e => by simp only [blsOf] at e; cases e; rfl
  | _, _, bs, @VRs.cons _ _ _ v d vs ds h r, e => by
    cases h with
    | bl b =>
      simp only [blsOf] at e
      cases q : blsOf ds with
      | none => rw [q] at e; cases e
      | some cs => rw [q] at e; cases e; rw [vrs_bls r q]; rfl
    | _ => simp only [blsOf] at e; cases e
def gAll : GC := fun S ds => match ds with
  | [d] => match vw S d with
    | .lst xs => (blsOf xs).map fun bs => .bl (bs.all id)
    | _ => none
  | _ => none
def gAny : GC := fun S ds => match ds with
  | [d] => match vw S d with
    | .lst xs => (blsOf xs).map fun bs => .bl (bs.any id)
    | _ => none
  | _ => none
theorem cl_all (hc : X.calm = true) : CallL X (.builtin "all") gAll := .of (cr_all hc) fun H m S xs ds d q r e => by
  unfold gAll at e
  split at e
  · obtain ⟨v, rfl, rv⟩ := r.one
    split at e
    · rename_i ys e1
      obtain ⟨a, vs, rfl, h1, r1⟩ := vw_lst q rv e1
      cases q2 : blsOf ys with
      | none => rw [q2] at e; cases e
      | some bs =>
        rw [q2] at e
        cases e
        exact ⟨a, bs, rfl, by rw [← vrs_bls r1 q2]; exact h1, qv_same q (.bl _)⟩
    · cases e
  · cases e
theorem cl_any (hc : X.calm = true) : CallL X (.builtin "any") gAny := .of (cr_any hc) fun H m S xs ds d q r e => by
  unfold gAny at e
  split at e
  · obtain ⟨v, rfl, rv⟩ := r.one
    split at e
    · rename_i ys e1
      obtain ⟨a, vs, rfl, h1, r1⟩ := vw_lst q rv e1
      cases q2 : blsOf ys with
      | none => rw [q2] at e; cases e
      | some bs =>
        rw [q2] at e
        cases e
        exact ⟨a, bs, rfl, by rw [← vrs_bls r1 q2]; exact h1, qv_same q (.bl _)⟩
    · cases e
  · cases e
def gTuple : GC := fun S ds => match ds with
  | [d] => match vw S d with
    | .lst xs => some (.tup xs)
    | .tup xs => some (.tup xs)
    | _ => none
  | _ => none
theorem cl_tuple : CallL X (.type "tuple") gTuple := .of call_tuple_of fun H m S xs ds d q r e => by
  unfold gTuple at e
  split at e
  · obtain ⟨v, rfl, rv⟩ := r.one
    split at e
    · rename_i ys e1
      cases e
      obtain ⟨a, vs, rfl, h1, r1⟩ := vw_lst q rv e1
      exact ⟨a, vs, rfl, .inl ⟨h1, fun l hl => qv_new q hl (vr_newTup q hl r1)⟩⟩
    · rename_i ys e1
      cases e
      obtain ⟨a, vs, rfl, h1, r1⟩ := vw_tup rv e1
      exact ⟨a, vs, rfl, .inr ⟨SqT.of h1, qv_same q (.tup h1 r1)⟩⟩
    · cases e
  · cases e
def gList : GC := fun S ds => match ds with
  | [d] => match vw S d with
    | .lst xs => some (.lst xs)
    | .tup xs => some (.lst xs)
    | _ => none
  | _ => none
theorem cl_list : CallL X (.type "list") gList := .of call_list_of fun H m S xs ds d q r e => by
  unfold gList at e
  split at e
  · obtain ⟨v, rfl, rv⟩ := r.one
    split at e
    · rename_i ys e1
      cases e
      obtain ⟨a, vs, rfl, h1, r1⟩ := vw_lst q rv e1
      exact ⟨a, vs, rfl, .inl h1, fun l hl => qv_new q hl (vr_newLst q hl r1)⟩
    · rename_i ys e1
      cases e
      obtain ⟨a, vs, rfl, h1, r1⟩ := vw_tup rv e1
      exact ⟨a, vs, rfl, .inr (SqT.of h1), fun l hl => qv_new q hl (vr_newLst q hl r1)⟩
    · cases e
  · cases e
/-- str of an int, of a text -/
def gStr : GC := fun _ ds => match ds with
  | [.int i] => if i.natAbs.log2 < 1920 then some (.str (toString i)) else none
  | [.str z] => some (.str z)
  | _ => none
theorem cl_str : CallL X (.type "str") gStr := ⟨fun pins s σ H m S xs ds d us I q r rv e => by
  unfold gStr at e
  split at e
  · split at e
    · cases e
      obtain ⟨v, rfl, rv1⟩ := r.one
      cases rv1
      exact thn (call_str_int pins s σ H _ us _ I rv ⟨_, rfl, ‹_›, qv_same q (.str _)⟩) fun _ _ z => vp_of z
    · cases e
  · cases e
    obtain ⟨v, rfl, rv1⟩ := r.one
    cases rv1
    exact thn (SkE.call_str_str pins s σ H _ us _ I rv ⟨_, rfl, qv_same q (.str _)⟩) fun _ _ z => vp_of z
  · cases e⟩
/-- repr of an int, a truth -/
def gRepr : GC := fun _ ds => match ds with
  | [.int i] => if i.natAbs.log2 < 1920 then some (.str (toString i)) else none
  | [.bl b] => some (.str (if b then "True" else "False"))
  | _ => none
theorem cl_repr : CallL X (.builtin "repr") gRepr := ⟨fun pins s σ H m S xs ds d us I q r rv e => by
  unfold gRepr at e
  split at e
  · split at e
    · cases e
      obtain ⟨v, rfl, rv1⟩ := r.one
      cases rv1
      exact thn (SkE.call_repr_int pins s σ H _ us _ I rv ⟨_, rfl, ‹_›, qv_same q (.str _)⟩) fun _ _ z => vp_of z
    · cases e
  · cases e
    obtain ⟨v, rfl, rv1⟩ := r.one
    cases rv1
    obtain ⟨u, rfl, ru⟩ := vals1 rv
    cases ru
    exact PySem.P.repr_of_bool ⟨.str _, H, m, I.tok _, ⟨_, rfl⟩, Ext.refl, q, .str _⟩
  · cases e⟩
end
end MP

namespace MP
open PySem PySem.Spec PyProof.Rows L2

/-! ### what a thing is -/
inductive Tg where
  | non | bl | int | str | tup | lst | dct | obj (C : Addr)
  deriving DecidableEq
def tyG : Tg → Value
  | .non => .type "NoneType"
  | .bl => .type "bool"
  | .int => .type "int"
  | .str => .type "str"
  | .tup => .type "tuple"
  | .lst => .type "list"
  | .dct => .type "dict"
  | .obj C => .ref C
def tgD : D → Option Tg
  | .non => some .non
  | .bl _ => some .bl
  | .int _ => some .int
  | .str _ => some .str
  | .tup _ => some .tup
  | .lst _ => some .lst
  | .dct _ _ => some .dct
  | .obj C _ => some (.obj C)
  | .exn _ _ => none
  | .ref _ => none
structure OwnOk (K : PySem.W.Frag) (C : Addr) : Prop where
  cl : Cls K C
  ha : PySem.W.findIn K (.ref C) "__class__" = some (some (.builtin "object.__class__"))
  hn : PySem.W.specialIn K (.builtin "object.__class__") "__get__" = some (some (.builtin "getset_descriptor.__get__"))
  htk : PySem.W.takesIn K (.builtin "object.__class__") = some true
  hm : PySem.W.mroIn K C (.type "object") = some true
section
variable {X : Cx} {pins : List (Addr × Obj)} {σ : L2.St} {H : Hp} {s : Shared} {m : List Addr} {S : Sto}
/-- what the library's rules ask of a value of that type -/
def Kit (K : PySem.W.Frag) (s : Shared) (u t : Value) : Prop := ∃ P : Heap → Prop, PySem.W.KitX K u t P ∧ P s.heap ∧ u ≠ .builtin "__main__.__loader__#opaque"
theorem kit_tyx {v : V} {u t : Value} (I : Inv X pins σ H s) (r : RelV v u) (h : TyX X.K H v t) : Kit X.K s u t := kit_of I r h
theorem kit_dct {a : Addr} {ob : HO} (I : Inv X pins σ H s) (h : H a = some ob) (hd : ∃ o, s.heap.get? a = some o ∧ o.cls = .type "dict") : Kit X.K s (.ref a) (.type "dict") := by
  obtain ⟨o, h1, h2⟩ := hd
  exact ⟨_, PySem.W.kitx_dict, ⟨o, h1, h2⟩, fun z => nomatch z⟩
theorem kit_rd {a : Addr} {kvs : List (Key × V)} (I : Inv X pins σ H s) (h : Rd H a (.dK kvs)) : Kit X.K s (.ref a) (.type "dict") := by
  rcases h with h | ⟨ob, h⟩
  · exact kit_of I (x := .ref a) rfl (.base (.dK h))
  · exact kit_of I (x := .ref a) rfl (.fDict h)
theorem kit_rdT {a : Addr} {kvs : List (List Key × V)} (I : Inv X pins σ H s) (h : Rd H a (.dT kvs)) : Kit X.K s (.ref a) (.type "dict") := by
  rcases h with h | ⟨ob, h⟩
  · exact kit_of I (x := .ref a) rfl (.base (.dT h))
  · obtain ⟨_, _, _, vs, _, o, es, ep, h1, h2, _⟩ := (show ObjOk X.prog X.w H s.heap a (.frz ob (.dT kvs)) from I.hok a _ h)
    exact ⟨_, PySem.W.kitx_dict, ⟨o, h1, h2.1⟩, fun z => nomatch z⟩
theorem kit_lst {a : Addr} {xs : List V} (I : Inv X pins σ H s) (h : Rd H a (.lst xs)) : Kit X.K s (.ref a) (.type "list") := by
  rcases h with h | ⟨ob, h⟩
  · exact kit_of I (x := .ref a) rfl (.base (.lst h))
  · exact kit_of I (x := .ref a) rfl (.base (.frz h))
theorem kit_d {v : V} {u : Value} {d : D} {t : Tg} (I : Inv X pins σ H s) (x : SR X.K m H S) (r : RelV v u) (w : VR X.K m H v d) (ht : tgD (vw S d) = some t) (ho : ∀ C, t = .obj C → OwnOk X.K C) : Kit X.K s u (tyG t) := by
  cases w with
  | non => cases ht; exact kit_of I r (.base .non)
  | bl b => cases ht; exact kit_of I r (.base (.bl b))
  | int b => cases ht; exact kit_of I r (.base (.int b))
  | str b => cases ht; exact kit_of I r (.base (.str b))
  | tup h _ => cases ht; exact kit_of I r (.base (.tup h))
  | lst n h _ => cases ht; cases r; exact kit_lst I h
  | lstK hk h1 h2 h3 h4 h5 _ => cases ht; exact kit_of I r (.kList hk h1)
  | dct n h _ => cases ht; cases r; exact kit_rd I (.inl h)
  | dctT n h _ => cases ht; cases r; exact kit_rdT I (.inl h)
  | @obj a C dx fs gs n h _ =>
    cases ht
    have o := ho C rfl
    exact kit_of I r (.base (.ins h o.cl o.ha o.hn o.htk o.hm))
  | exn0 n h => cases ht
  | exnD n nd h hd _ => cases ht
  | @ref i a h =>
    dsimp only [vw] at ht
    cases q : S[i]? with
    | none => rw [q] at ht; cases ht
    | some ob =>
      rw [q] at ht
      cases r
      cases x.at_ i a ob h q with
      | lst h _ => cases ht; exact kit_lst I (.inl h)
      | dct h _ => cases ht; exact kit_rd I (.inl h)
      | dctT h _ => cases ht; exact kit_rdT I (.inl h)
      | @ins C dx fs gs h _ =>
        cases ht
        have o := ho C rfl
        exact kit_of I (x := .ref a) rfl (.base (.ins h o.cl o.ha o.hn o.htk o.hm))
end

/-! ### isinstance -/
abbrev Tab := Tg → Option Bool
structure IsiOk (K : PySem.W.Frag) (c : Value) (tab : Tab) : Prop where
  one : ∀ t b, tab t = some b → PySem.W.kitOne K (tyG t) c = some b ∧ ∀ C, t = .obj C → OwnOk K C
section
variable {X : Cx} {e ce : Expr} {pos p : Pos} {l : LE} {cv : Value} {cw : V} {tab : Tab}
def gIsi (tab : Tab) (S : Sto) (d : D) : Option D := ((tgD (vw S d)).bind tab).map .bl
def lIsi (tab : Tab) (l : LE) : LE := fun ρ S => (l ρ S).bind fun d S1 => lift1 (gIsi tab S1 d) S1
theorem pel_isi (hg : Gl X "isinstance") (hm : X.mg "isinstance" = none) (he : PEL X e l) (hc : PE X ce (tC cw)) (hcv : ClsV cw cv) (ok : IsiOk X.K cv tab)
    (hs : starEach [e, ce] X.env = (false, eval e X.env) :: starEach [ce] X.env := by rfl) (hs2 : starEach [ce] X.env = (false, eval ce X.env) :: starEach [] X.env := by rfl)
    (hpl : (backTo pos (starEach [ce] X.env)).any (·.1) = false := by rfl) : PEL X (.Call (.Name "isinstance" p) [e, ce] [] pos) (lIsi tab l) := by
  refine ⟨fun pins s σ H m ρ S I x r hp => ?_⟩
  refine wpAny_Call_Name_kw (ld_blt I hg hm (u := .builtin "isinstance") (by decide +kernel) ?_ (by decide) (by decide))
  refine PyProof.Rows.callWith_builtin1 ?_ hs hpl
  rw [hs]
  show wpAny _ _ (spliced ((false, eval e X.env) :: backTo pos (starEach [ce] X.env))) _ _ s
  refine Calls.spliced_cons (run_seq he I x r hp fun d S1 q1 v u s1 H1 m1 I1 rv e1 x1 w1 r1 hp1 => ?_)
  rw [hs2]
  show wpAny _ _ (spliced ((false, eval ce X.env) :: backTo pos (starEach [] X.env))) _ _ s1
  refine Calls.spliced_cons (thn (hc.run pins s1 σ H1 (fun v' H' => v' = cw ∧ H' = H1) I1 ⟨rfl, rfl⟩) fun u2 s2 ⟨v2, H2, I2, rv2, ev, eH⟩ => ?_)
  subst ev
  subst eH
  refine Calls.spliced_nil ?_
  cases q2 : gIsi tab S1 d with
  | none => rw [q2] at hp1; exact absurd rfl hp1.1
  | some d' =>
    have e0 : lIsi tab l ρ S = .ok d' S1 := by unfold lIsi; rw [q1, bind_ok, q2]; rfl
    rw [e0]
    unfold gIsi at q2
    cases qt : tgD (vw S1 d) with
    | none => rw [qt] at q2; cases q2
    | some t =>
      rw [qt] at q2
      cases qb : tab t with
      | none => rw [show (some t).bind tab = tab t from rfl, qb] at q2; cases q2
      | some b =>
        rw [show (some t).bind tab = tab t from rfl, qb] at q2
        cases q2
        obtain ⟨k1, k2⟩ := ok.one t b qb
        obtain ⟨P, Z, pp, hx⟩ := kit_d I2 x1 rv w1 qt k2
        have ec := hcv.eq rv2
        subst ec
        exact PySem.W.kia_one Z I2.kIn pp k1 hx fun tk => ⟨_, S1, rfl, .bl b, H2, m1, I2.tok tk, rfl, e1, x1, .bl b⟩
end

/-! ### own special methods -/
/-- somewhere below the running body, with room -/
structure SubA (X : Cx) (n : Nat) (A : Around) : Prop where
  room : Room n A
  fr : A.frames = X.A.frames
theorem SubA.in1 {X : Cx} {n : Nat} {A : Around} (s : SubA X (n + 1) A) : SubA X n A.in1 := ⟨s.room.in1, s.fr⟩
theorem SubA.mono {X : Cx} {n m : Nat} {A : Around} (s : SubA X n A) (h : m ≤ n) : SubA X m A := ⟨s.room.mono h, s.fr⟩
theorem SubA.self {X : Cx} {k : Nat} (h : Room k X.A) : SubA X k X.A := ⟨h, rfl⟩
def F1 (gp : Sto → D → Option D) : F := fun ds S => match ds with
  | [x] => lift1 (gp S x) S
  | _ => .bad
def F2 (gp : G2) : F := fun ds S => match ds with
  | [x, y] => lift1 (gp S x y) S
  | _ => .bad
section
variable {X : Cx} {pins : List (Addr × Obj)} {σ : L2.St} {H : Hp} {s : Shared} {m : List Addr} {S S' : Sto} {k : Nat} {f C : Addr} {fd : FuncData} {ps : List Str} {g : F} {vs : List V} {us : List Value} {ds : List D} {d : D}
theorem run_pure {A' : Around} {Ex : Value → Shared → Prop} (sb : SubA X k A') (Fn : FnL X.prog X.w X.K X.mg X.base k f fd ps g) (hb : Binds X.K fd ps []) (I : Inv X pins σ H s) (x : SR X.K m H S) (r : Vals vs us) (rd : VRs X.K m H vs ds) (hl : vs.length = ps.length) (hg : g ds S = .ok d S') :
    wpAny (model X.prog X.w) A' (call (.ref f) us) (VP X pins σ m H d S') Ex s := by
  have e0 : Env0 X.prog X.w X.K X.mg X.base A' X.stack s H := by
    have e := I.env0
    exact ⟨by rw [sb.fr]; exact e.frames, e.mod, e.bs, e.bsz, e.funs, e.frf, e.hok, e.bare⟩
  have hsp : spL X.K g ps.length vs H (fun v H' => QV X.K m H S' d v H') (fun _ _ _ => False) := by
    refine ⟨hl, m, S, ds, x, rd, fun z => ?_, fun d2 S2 q v H' z => ?_, fun C fs S2 q => ?_⟩
    · rw [hg] at z; cases z
    · rw [hg] at q; cases q; exact z
    · rw [hg] at q; cases q
  have hl2 : (us ++ ([] : List Value)).length = ps.length := by rw [List.append_nil, ← r.length]; exact hl
  have hb' := hb s us I.kIn hl2
  rw [List.append_nil] at hb'
  refine wpAny_call (codeAny_mono (Fn.run A' X.stack s H ⟨us, []⟩ us vs _ _ sb.room e0 hb' r hsp) fun r s' hq => ?_)
  cases r with
  | error e => obtain ⟨_, _, _, _, _, _, _, _, _, _, _, _, hq⟩ := hq; exact hq.elim
  | ok fl =>
    cases fl with
    | ret w =>
      obtain ⟨z, H', I', rz, m', e, x', w'⟩ := I.after hq
      exact ⟨z, H', m', I', rz, e, x', w'⟩
    | next => exact False.elim hq
    | brk => exact False.elim hq
    | cont => exact False.elim hq

/-- == by an own __eq__; the other one may be of the types ts -/
def gOwnEq (C : Addr) (ts : List Tg) (gp : G2) : G2 := fun S x y => match vw S x with
  | .obj C' _ => if C' = C then (match tgD (vw S y) with
    | some t => if t ∈ ts then gp S x y else none
    | none => none) else none
  | _ => none
theorem gOwnEq_inv {ts : List Tg} {gp : G2} {x y d : D} (h : gOwnEq C ts gp S x y = some d) : ∃ fs t, vw S x = .obj C fs ∧ tgD (vw S y) = some t ∧ t ∈ ts ∧ gp S x y = some d := by
  unfold gOwnEq at h
  split at h
  · rename_i C' fs q
    split at h
    · rename_i hc
      subst hc
      split at h
      · rename_i t qt
        split at h
        · exact ⟨fs, t, q, qt, ‹_›, h⟩
        · cases h
      · cases h
    · cases h
  · cases h
structure EqM (X : Cx) (C : Addr) (ts : List Tg) (gp : G2) : Prop where
  ex : ∃ (k : Nat) (f : Addr) (fd : FuncData) (ps : List Str), FnL X.prog X.w X.K X.mg X.base k f fd ps (F2 gp) ∧ Room (k + 2) X.A ∧ Binds X.K fd ps [] ∧ ps.length = 2 ∧ PySem.W.findIn X.K (.ref C) "__eq__" = some (some (.ref f)) ∧ PySem.W.isFn X.K (.ref f) = true
  fst : ∀ t ∈ ts, PySem.W.notFirst X.K C (tyG t) = true ∧ ∀ C', t = .obj C' → OwnOk X.K C'
theorem opl_ownEq {ts : List Tg} {gp : G2} (E : EqM X C ts gp) : OpL X (compareOp .Eq) (gOwnEq C ts gp) := ⟨fun pins s σ H m S x y dx dy d v u I q rx ry ex ey e => by
  obtain ⟨k, f, fd, ps, Fn, hr, hb, hl, hs, hf⟩ := E.ex
  obtain ⟨fs, t, h1, h2, h3, h4⟩ := gOwnEq_inv e
  obtain ⟨n1, n2⟩ := E.fst t h3
  obtain ⟨a, dx', fs', rfl, ha, _⟩ := vw_obj q rx h1
  cases ex
  obtain ⟨mA, J, _⟩ := ins_get I.hok ha
  obtain ⟨od, J, _⟩ := J.look
  obtain ⟨mm, hF⟩ := I.fr
  obtain ⟨P, Z, pp, _⟩ := kit_d I q ey ry h2 n2
  show wpAny _ _ (richCompare .Eq _ _) _ _ _
  refine PySem.W.cmp_K (op := .Eq) (tb := tyG t) (SubA.self hr).room.units0 hF I.ok.mod.kin J (Z.ty _ _ I.kIn pp) n1 hs hf ?_
  refine wpAny_mono (run_pure (vs := [.ref a, y]) (us := [.ref a, u]) (SubA.self (hr.mono (by omega))) Fn hb I q (.cons rfl (.cons ey .nil)) (.cons rx (.cons ry .nil)) (by rw [hl]; rfl) (show F2 gp [dx, dy] S = .ok d S from by simp only [F2]; rw [h4]; rfl)) (fun w s' z => ?_) fun _ _ z => z
  obtain ⟨vv, H', m', I', rv, e', x', w'⟩ := z
  have : w ≠ .notImplemented := fun zz => by
    subst zz
    cases w' <;> first | (cases rv; done) | (obtain ⟨_, rv⟩ := rv; cases rv)
  show PySem.W.CmpBack _ w s'
  unfold PySem.W.CmpBack
  split
  · exact absurd rfl this
  · exact ⟨vv, H', m', I', rv, e', x', w'⟩⟩
end
/-! ### != by object.__ne__ -/
section
variable {prog : Program} {w : World} {K : PySem.W.Frag} {h₀ : Heap} {L m : List Addr} {A : Around} {E : Value → Shared → Prop} {s : Shared} {x f C : Addr} {ox : Obj} {od : Option Obj}
theorem ifBound_bi {M : Model} {name : Str} {id : String} {args : List Value} {Q : Option Value → Shared → Prop} (X : K.In s.heap) (I : PySem.W.InstAt s.heap x ox C od) (hs : PySem.W.findIn K (.ref C) name = some (some (.builtin id)))
    (hb : ∀ self, bindSpecial (.builtin id) self = pure (.builtin id, [self])) (h : wpAny M A (call (.builtin id) (.ref x :: args)) (fun v => Q (some v)) E s) : wpAny M A (callSpecialIfBound? (.ref x) name args) Q E s := by
  simp only [callSpecialIfBound?, bindSpecialIfBound?]
  refine wpAny_holding (wpAny_bind (wpAny_bind (wpAny_bind (I.type.here ((PySem.W.looks_findIn X hs).here ?_)))))
  refine wpAny_bind (wpAny_askSetting (wpAny_ite ?_))
  have fin : wpAny M A (call (.builtin id) ([.ref x] ++ args) >>= fun v => pure (some v)) Q E s := wpAny_bind (wpAny_mono h (fun v s' h' => wpAny_pure h') fun _ _ h' => h')
  split
  · exact wpAny_bind ((PySem.W.Looks.of_pure (hb _)).here (wpAny_pure (by exact fin)))
  · exact wpAny_tryCatch (wpAny_bind ((PySem.W.Looks.of_pure (hb _)).here (wpAny_pure (by exact fin))))
open Builtin in
theorem ne_entry {b : Value} {Q : Fin → Shared → Prop} (hu : A.units < cLine) (X : K.In s.heap) (I : PySem.W.InstAt s.heap x ox C od) (hs : PySem.W.findIn K (.ref C) "__eq__" = some (some (.ref f))) (hf : PySem.W.isFn K (.ref f) = true)
    (h : wpAny (model prog w) A (call (.ref f) [.ref x, b]) (fun v s' => ∃ b, v = .bool b ∧ Q (.done (.ret (.bool (!b)))) s') E s) :
    wpAny (model prog w) A (Builtin.«object.__ne__» ⟨[.ref x, b], []⟩) Q E s := by
  unfold Builtin.«object.__ne__»
  repeat (first
    | with_reducible refine wpAny_cRoomFor hu ?_
    | (refine wpAny_bind (m := callSpecialIfBound? (.ref x) (Str.ofString "__eq__") [b])
        (PySem.W.ifBound_K X I hs hf (wpAny_mono h (fun r s' hr => by
          obtain ⟨b, rfl, hq⟩ := hr
          repeat (first | exact hq | exact wpAny_pure hq | exact wpAny_truthy_bool hq | (refine wpAny_bind (m := truthy (.bool _)) (wpAny_truthy_bool ?_)) | wp_step)) fun _ _ e => e)))
    | wp_step)
theorem ne_K {b tb : Value} {Q : Value → Shared → Prop} (hu : A.units + 1 < cLine) (X : K.In s.heap) (I : PySem.W.InstAt s.heap x ox C od) (hb : PySem.W.Looks (model prog w) s.heap (typeOf b) tb) (hn : PySem.W.notFirst K C tb = true)
    (hne : PySem.W.findIn K (.ref C) "__ne__" = some (some (.builtin "object.__ne__"))) (hm : PySem.W.mroIn K C (.type "object") = some true) (hs : PySem.W.findIn K (.ref C) "__eq__" = some (some (.ref f))) (hf : PySem.W.isFn K (.ref f) = true)
    (h : wpAny (model prog w) A.in1 (call (.ref f) [.ref x, b]) (fun v s' => ∃ b, v = .bool b ∧ Q (.bool (!b)) s') E s) : wpAny (model prog w) A (richCompare .NotEq (.ref x) b) Q E s := by
  have one : wpAny (model prog w) A (tryCompare (.ref x) (cmpInfo .NotEq).2.1 b) (fun r s' => ∃ v, r = some v ∧ Q v s') E s := by
    unfold tryCompare
    refine wpAny_bind (ifBound_bi X I hne PySem.F.slot_object_ne.bind (wpAny_call (codeAny_call_builtin PySem.F.slot_object_ne.plain PySem.F.cmpEntry_ne (PySem.W.check_slot (i := "object.__ne__") (owner := "object") (n := "__ne__") PySem.F.cmpKind_ne PySem.F.cmpSplit_ne (I.type.andThen (PySem.W.looks_mroIn X hm)) (PySem.F.cmpArgs_ne _ _)
      (ne_entry (A := A.in1) hu X I hs hf (wpAny_mono h (fun v s' hv => ?_) fun _ _ e => e))))))
    obtain ⟨b, rfl, hq⟩ := hv
    first | exact ⟨b, rfl, wpAny_pure ⟨_, rfl, hq⟩⟩ | exact ⟨b, rfl, wpAny_pure (wpAny_pure ⟨_, rfl, hq⟩)⟩ | exact ⟨b, rfl, ⟨_, rfl, hq⟩⟩
  unfold richCompare
  simp only [oneThing_ref]
  refine wpAny_holding (wpAny_bind (wpAny_cRoomFor (by omega) ?_))
  refine wpAny_bind (I.type.here (wpAny_bind (hb.here ?_)))
  split
  · rename_i q
    have e : PySem.W.subIn K tb (.ref C) = some false := by
      rcases Bool.or_eq_true_iff.mp hn with e | e
      · rw [beq_iff_eq.mp e] at q; simp at q
      · exact beq_iff_eq.mp e
    refine wpAny_bind ((PySem.W.looks_subIn X e).here ?_)
    simp only [Bool.false_eq_true, if_false]
    refine wpAny_bind (wpAny_mono one (fun r s' z => ?_) fun _ _ e => e)
    obtain ⟨v, rfl, hq⟩ := z
    exact wpAny_pure hq
  · refine wpAny_bind (wpAny_pure ?_)
    simp only [Bool.false_eq_true, if_false]
    refine wpAny_bind (wpAny_mono one (fun r s' z => ?_) fun _ _ e => e)
    obtain ⟨v, rfl, hq⟩ := z
    exact wpAny_pure hq
end
end MP

namespace MP
open PySem PySem.Spec PyProof.Rows L2

section
variable {X : Cx} {C : Addr}
/-- != by an own __eq__ and object.__ne__ -/
def gOwnNe (C : Addr) (ts : List Tg) (gp : G2) : G2 := fun S x y => (gOwnEq C ts gp S x y).bind fun d => match d with
  | .bl b => some (.bl (!b))
  | _ => none
theorem opl_ownNe {ts : List Tg} {gp : G2} (E : EqM X C ts gp) (hne : PySem.W.findIn X.K (.ref C) "__ne__" = some (some (.builtin "object.__ne__"))) (hm : PySem.W.mroIn X.K C (.type "object") = some true) : OpL X (compareOp .NotEq) (gOwnNe C ts gp) := ⟨fun pins s σ H m S x y dx dy d v u I q rx ry ex ey e => by
  obtain ⟨k, f, fd, ps, Fn, hr, hb, hl, hs, hf⟩ := E.ex
  unfold gOwnNe at e
  cases e1 : gOwnEq C ts gp S dx dy with
  | none => rw [e1] at e; cases e
  | some d1 =>
    rw [e1] at e
    dsimp only [Option.bind] at e
    split at e
    · rename_i b
      cases e
      obtain ⟨fs, t, h1, h2, h3, h4⟩ := gOwnEq_inv e1
      obtain ⟨n1, n2⟩ := E.fst t h3
      obtain ⟨a, dx', fs', rfl, ha, _⟩ := vw_obj q rx h1
      cases ex
      obtain ⟨mA, J, _⟩ := ins_get I.hok ha
      obtain ⟨od, J, _⟩ := J.look
      obtain ⟨P, Z, pp, _⟩ := kit_d I q ey ry h2 n2
      have sb : SubA X (k + 2) X.A := SubA.self hr
      show wpAny _ _ (richCompare .NotEq _ _) _ _ _
      refine ne_K (tb := tyG t) sb.in1.room.units0 I.kIn J (Z.ty _ _ I.kIn pp) n1 hne hm hs hf ?_
      refine wpAny_mono (run_pure (vs := [.ref a, y]) (us := [.ref a, u]) (sb.in1.mono (by omega)) Fn hb I q (.cons rfl (.cons ey .nil)) (.cons rx (.cons ry .nil)) (by rw [hl]; rfl) (show F2 gp [dx, dy] S = .ok (.bl b) S from by simp only [F2]; rw [h4]; rfl)) (fun w s' z => ?_) fun _ _ z => z
      obtain ⟨vv, H', m', I', rv, e', x', w'⟩ := z
      cases w'
      obtain rfl : w = Value.bool b := rv
      exact ⟨b, rfl, .bl (!b), H', m', I', rfl, e', x', .bl _⟩
    · cases e⟩
/-- an own special method of one argument -/
structure OneM (X : Cx) (C : Addr) (nm : Str) (gp : Sto → D → Option D) : Prop where
  ex : ∃ (k : Nat) (f : Addr) (fd : FuncData) (ps : List Str), FnL X.prog X.w X.K X.mg X.base k f fd ps (F1 gp) ∧ Room (k + 3) X.A ∧ Binds X.K fd ps [] ∧ ps.length = 1 ∧ PySem.W.findIn X.K (.ref C) nm = some (some (.ref f)) ∧ PySem.W.isFn X.K (.ref f) = true
def gOwn1 (C : Addr) (gp : Sto → D → Option D) (S : Sto) (d : D) : Option D := match vw S d with
  | .obj C' _ => if C' = C then gp S d else none
  | _ => none
theorem gOwn1_inv {gp : Sto → D → Option D} {S : Sto} {x d : D} (h : gOwn1 C gp S x = some d) : ∃ fs, vw S x = .obj C fs ∧ gp S x = some d := by
  unfold gOwn1 at h
  split at h
  · rename_i C' fs q
    split at h
    · rename_i hc
      subst hc
      exact ⟨fs, q, h⟩
    · cases h
  · cases h
def strD : D → Option D
  | .str z => some (.str z)
  | _ => none
def gStrO (C : Addr) (gp : Sto → D → Option D) : GC := fun S ds => match ds with
  | [d] => (gOwn1 C gp S d).bind strD
  | _ => none
theorem gStrO_inv {gp : Sto → D → Option D} {S : Sto} {ds : List D} {d : D} (h : gStrO C gp S ds = some d) : ∃ x fs z, ds = [x] ∧ vw S x = .obj C fs ∧ gp S x = some (.str z) ∧ d = .str z := by
  unfold gStrO at h
  split at h
  · rename_i x
    cases q : gOwn1 C gp S x with
    | none => rw [q] at h; cases h
    | some e =>
      rw [q] at h
      obtain ⟨fs, h1, h2⟩ := gOwn1_inv q
      cases e with
      | str z => cases h; exact ⟨x, fs, z, rfl, h1, h2, rfl⟩
      | _ => cases h
  · cases h
theorem strBack {pins : List (Addr × Obj)} {σ : L2.St} {m : List Addr} {H : Hp} {S' : Sto} {z : Str} {w : Value} {s' : Shared} (h : VP X pins σ m H (.str z) S' w s') : PySem.W.StrBack (VP X pins σ m H (.str z) S') w s' := by
  obtain ⟨vv, H', m', I', rv, e', x', w'⟩ := id h
  cases w'
  obtain ⟨t, rfl⟩ := rv
  exact h
theorem cl_strO {gp : Sto → D → Option D} (E : OneM X C "__str__" gp) : CallL X (.type "str") (gStrO C gp) := ⟨fun pins s σ H m S xs ds d us I q r rv e => by
  obtain ⟨k, f, fd, ps, Fn, hr, hb, hl, hs, hf⟩ := E.ex
  obtain ⟨x, fs, z, rfl, h1, h2, rfl⟩ := gStrO_inv e
  obtain ⟨v, rfl, w⟩ := r.one
  obtain ⟨u, rfl, ru⟩ := vals1 rv
  obtain ⟨a, dx, fs', rfl, ha, _⟩ := vw_obj q w h1
  cases ru
  obtain ⟨mA, J, _⟩ := ins_get I.hok ha
  obtain ⟨od, J, _⟩ := J.look
  have sb : SubA X (k + 3) X.A := SubA.self hr
  refine PySem.W.kso_call sb.in1.in1.room.units0 I.kIn J hs hf ?_
  exact wpAny_mono (run_pure (vs := [.ref a]) (us := [.ref a]) (sb.in1.in1.mono (by omega)) Fn hb I q (.cons rfl .nil) (.cons w .nil) (by rw [hl]; rfl) (show F1 gp [x] S = .ok (.str z) S from by simp only [F1]; rw [h2]; rfl)) (fun w s' z => strBack z) fun _ _ z => z⟩
theorem cl_reprO {gp : Sto → D → Option D} (E : OneM X C "__repr__" gp) : CallL X (.builtin "repr") (gStrO C gp) := ⟨fun pins s σ H m S xs ds d us I q r rv e => by
  obtain ⟨k, f, fd, ps, Fn, hr, hb, hl, hs, hf⟩ := E.ex
  obtain ⟨x, fs, z, rfl, h1, h2, rfl⟩ := gStrO_inv e
  obtain ⟨v, rfl, w⟩ := r.one
  obtain ⟨u, rfl, ru⟩ := vals1 rv
  obtain ⟨a, dx, fs', rfl, ha, _⟩ := vw_obj q w h1
  cases ru
  obtain ⟨mA, J, _⟩ := ins_get I.hok ha
  obtain ⟨od, J, _⟩ := J.look
  have sb : SubA X (k + 3) X.A := SubA.self hr
  obtain ⟨mm, hF⟩ := I.fr
  refine PySem.W.repr_K sb.in1.room.units0 hF I.ok.mod.kin J hs hf ?_
  exact wpAny_mono (run_pure (vs := [.ref a]) (us := [.ref a]) (sb.in1.mono (by omega)) Fn hb I q (.cons rfl .nil) (.cons w .nil) (by rw [hl]; rfl) (show F1 gp [x] S = .ok (.str z) S from by simp only [F1]; rw [h2]; rfl)) (fun w s' z => strBack z) fun _ _ z => z⟩
def gLenO (C : Addr) (gp : Sto → D → Option D) : GC := fun S ds => match ds with
  | [d] => (gOwn1 C gp S d).bind fun e => match e with
    | .int n => if 0 ≤ n ∧ n < 2 ^ 63 then some (.int n) else none
    | _ => none
  | _ => none
theorem gLenO_inv {gp : Sto → D → Option D} {S : Sto} {ds : List D} {d : D} (h : gLenO C gp S ds = some d) : ∃ x fs n, ds = [x] ∧ vw S x = .obj C fs ∧ gp S x = some (.int n) ∧ d = .int n ∧ 0 ≤ n ∧ n < 2 ^ 63 := by
  unfold gLenO at h
  split at h
  · rename_i x
    cases q : gOwn1 C gp S x with
    | none => rw [q] at h; cases h
    | some e =>
      rw [q] at h
      obtain ⟨fs, h1, h2⟩ := gOwn1_inv q
      cases e with
      | int n =>
        dsimp only [Option.bind] at h
        split at h
        · rename_i hn
          cases h
          exact ⟨x, fs, n, rfl, h1, h2, rfl, hn.1, hn.2⟩
        · cases h
      | _ => cases h
  · cases h
theorem cl_lenO {gp : Sto → D → Option D} (E : OneM X C "__len__" gp) : CallL X (.builtin "len") (gLenO C gp) := ⟨fun pins s σ H m S xs ds d us I q r rv e => by
  obtain ⟨k, f, fd, ps, Fn, hr, hb, hl, hs, hf⟩ := E.ex
  obtain ⟨x, fs, n, rfl, h1, h2, rfl, n0, n1⟩ := gLenO_inv e
  obtain ⟨v, rfl, w⟩ := r.one
  obtain ⟨u, rfl, ru⟩ := vals1 rv
  obtain ⟨a, dx, fs', rfl, ha, _⟩ := vw_obj q w h1
  cases ru
  obtain ⟨mA, J, _⟩ := ins_get I.hok ha
  obtain ⟨od, J, _⟩ := J.look
  have sb : SubA X (k + 3) X.A := SubA.self hr
  obtain ⟨mm, hF⟩ := I.fr
  refine PySem.W.len_K hF I.ok.mod.kin J hs hf ?_
  refine wpAny_mono (run_pure (vs := [.ref a]) (us := [.ref a]) (sb.in1.mono (by omega)) Fn hb I q (.cons rfl .nil) (.cons w .nil) (by rw [hl]; rfl) (show F1 gp [x] S = .ok (.int n) S from by simp only [F1]; rw [h2]; rfl)) (fun w s' z => ?_) fun _ _ z => z
  obtain ⟨vv, H', m', I', rv, e', x', w'⟩ := z
  cases w'
  obtain ⟨t, rfl⟩ := rv
  first
    | exact ⟨⟨n0, n1⟩, .int n, H', m', I'.tok _, ⟨_, rfl⟩, e', x', .int n⟩
    | exact ⟨⟨n0, n1⟩, .int n, H', m', I', ⟨_, rfl⟩, e', x', .int n⟩⟩
end
end MP

namespace MP
open PySem PySem.Spec PyProof.Rows L2

/-! ### f'..' -/
section
variable {X : Cx} {e : Expr} {es : List Expr} {l : LE} {pos : Pos}
def gFmt (S : Sto) (d : D) : Option D := match vw S d with
  | .str y => if y.length ≤ sizeLine then some (.str y) else none
  | .int i => if i.natAbs.log2 < 1920 then some (.str (toString i)) else none
  | _ => none
def lFmt (l : LE) : LE := fun ρ S => (l ρ S).bind fun d S1 => lift1 (gFmt S1 d) S1
theorem pel_fmt (he : PEL X e l) : PEL X (.FormattedValue e (-1) none pos) (lFmt l) := by
  refine ⟨fun pins s σ H m ρ S I x r hp => ?_⟩
  refine wpAny_FormattedValue_plain (run_seq he I x r hp fun d S1 q1 v u s1 H1 m1 I1 rv e1 x1 w1 r1 hp1 => ?_)
  cases q2 : gFmt S1 d with
  | none => rw [q2] at hp1; exact absurd rfl hp1.1
  | some d' =>
    have e0 : lFmt l ρ S = .ok d' S1 := by unfold lFmt; rw [q1, bind_ok, q2]; rfl
    rw [e0]
    unfold gFmt at q2
    split at q2
    · rename_i y qv
      obtain rfl := vw_str w1 qv
      split at q2
      · rename_i hz
        cases q2
        obtain ⟨t, rfl⟩ := rv
        exact wpAny_formatField_str ⟨_, S1, rfl, .str y, H1, m1, I1, ⟨t, rfl⟩, e1, x1, .str y⟩ ⟨_, S1, rfl, .str y, H1, m1, I1.tok _, ⟨_, rfl⟩, e1, x1, .str y⟩ hz
      · cases q2
    · rename_i i qv
      obtain rfl := vw_int w1 qv
      split at q2
      · rename_i hz
        cases q2
        obtain ⟨t, rfl⟩ := rv
        exact wpAny_formatField_int hz ⟨_, S1, rfl, .str _, H1, m1, I1.tok _, ⟨_, rfl⟩, e1, x1, .str _⟩
      · cases q2
    · cases q2
abbrev LJ := Str → Ev → Sto → R Str
structure PJL (X : Cx) (es : List Expr) (l : LJ) : Prop where
  run : ∀ (acc : Str) (pins : List (Addr × Obj)) (s : Shared) (σ : L2.St) (H : Hp) (m : List Addr) (ρ : Ev) (S : Sto) (Rr : Str → Shared → Prop), acc.length ≤ sizeLine → Inv X pins σ H s → SR X.K m H S → ER X.K m H σ ρ → Hope X σ m H (l acc ρ S) →
    (∀ out S1 s1 H1 m1, l acc ρ S = .ok out S1 → out.length ≤ sizeLine → Inv X pins σ H1 s1 → Ext m H m1 H1 → SR X.K m1 H1 S1 → Rr out s1) → Joins (model X.prog X.w) X.A X.xe (evalEach es X.env) acc Rr s
def jNil : LJ := fun acc _ S => .ok acc S
def jCons (l : LE) (t : LJ) : LJ := fun acc ρ S => (l ρ S).bind fun d S1 => match d with
  | .str y => if (acc ++ y).length ≤ sizeLine then t (acc ++ y) ρ S1 else .bad
  | _ => .bad
theorem pjl_nil : PJL X [] jNil := ⟨fun acc pins s σ H m ρ S Rr hz I x r hp k => by
  have e0 : evalEach [] X.env = [] := by first | rfl | simp [evalEach]
  rw [e0]
  exact k acc S s H m rfl hz I Ext.refl x⟩
theorem pjl_cons {t : LJ} (he : PEL X e l) (ht : PJL X es t) : PJL X (e :: es) (jCons l t) := ⟨fun acc pins s σ H m ρ S Rr hz I x r hp k => by
  have e0 : evalEach (e :: es) X.env = eval e X.env :: evalEach es X.env := by first | rfl | simp [evalEach]
  rw [e0]
  refine run_seq he I x r hp fun d S1 q1 v u s1 H1 m1 I1 rv e1 x1 w1 r1 hp1 => ?_
  cases d with
  | str y =>
    have hy := hope_if hp1
    dsimp only at hp1
    rw [if_pos hy] at hp1
    cases w1
    obtain ⟨tk, rfl⟩ := rv
    have e2 : jCons l t acc ρ S = t (acc ++ y) ρ S1 := by unfold jCons; rw [q1, bind_ok]; dsimp only; rw [if_pos hy]
    exact ⟨y, tk, rfl, hy, ht.run (acc ++ y) pins s1 σ H1 m1 ρ S1 Rr hy I1 x1 r1 hp1 fun out S2 s2 H2 m2 q2 hz2 I2 e3 x2 => k out S2 s2 H2 m2 (e2.trans q2) hz2 I2 (e1.trans e3) x2⟩
  | _ => exact absurd rfl hp1.1⟩
def lJoin (t : LJ) : LE := fun ρ S => (t Str.empty ρ S).bind fun out S1 => .ok (.str out) S1
theorem hope_bind {α β : Type} {r : R α} {f : α → Sto → R β} {X : Cx} {σ : L2.St} {m : List Addr} {H : Hp} (h : Hope X σ m H (r.bind f)) : Hope X σ m H r := hope_seq h
theorem pel_join {v1 v2 : Expr} {rest : List Expr} {t : LJ} (h : PJL X (v1 :: v2 :: rest) t) : PEL X (.JoinedStr (v1 :: v2 :: rest) pos) (lJoin t) := by
  refine ⟨fun pins s σ H m ρ S I x r hp => ?_⟩
  refine wpAny_JoinedStr (h.run Str.empty pins s σ H m ρ S _ (Nat.zero_le _) I x r (hope_seq hp) fun out S1 s1 H1 m1 q1 hz I1 e1 x1 => ⟨hz, .str out, S1, ?_, .str out, H1, m1, I1.tok _, ⟨_, rfl⟩, e1, x1, .str out⟩)
  unfold lJoin; rw [q1]; rfl
theorem pel_join1 (he : PEL X e l) : PEL X (.JoinedStr [e] pos) l := ⟨fun pins s σ H m ρ S I x r hp => wpAny_JoinedStr_one (he.run pins s σ H m ρ S I x r hp)⟩
end

/-! ### methods of the built-in types -/
/-- the value and the store behind a method -/
abbrev GM := Sto → D → List D → Option (D × Sto)
structure MtL (X : Cx) (id : String) (g : GM) : Prop where
  run : ∀ (pins : List (Addr × Obj)) (s : Shared) (σ : L2.St) (H : Hp) (m : List Addr) (S S' : Sto) (x : V) (dx d : D) (xs : List V) (ds : List D) (v : Value) (us : List Value), Inv X pins σ H s → SR X.K m H S → VR X.K m H x dx → VRs X.K m H xs ds → RelV x v → Vals xs us → g S dx ds = some (d, S') →
    wpAny (model X.prog X.w) X.A (call (.builtin id) (v :: us)) (VP X pins σ m H d S') X.xe s
def isTy (T : String) (S : Sto) (d : D) : Bool := match vw S d with
  | .lst _ => T == "list"
  | .str _ => T == "str"
  | .dct _ _ => match d with
    | .ref _ => T == "dict"
    | _ => false
  | _ => false
theorem ty_of {X : Cx} {m : List Addr} {H : Hp} {S : Sto} {v : V} {d : D} {T : String} (x : SR X.K m H S) (r : VR X.K m H v d) (h : isTy T S d = true) : tyV X.K T v H := by
  unfold isTy at h
  split at h
  · rename_i xs q
    obtain ⟨a, vs, rfl, h1, _⟩ := vw_lst x r q
    exact .inl ⟨beq_iff_eq.mp h, vs, h1⟩
  · rename_i z q
    obtain rfl := vw_str r q
    exact beq_iff_eq.mp h
  · rename_i kvs q
    split at h
    · rename_i i
      cases r with
      | @ref _ a hm =>
        dsimp only [vw] at q
        cases q2 : S[i]? with
        | none => rw [q2] at q; cases q
        | some ob =>
          rw [q2] at q
          cases x.at_ i a ob hm q2 with
          | lst _ _ => cases q
          | ins _ _ => cases q
          | dct h1 _ => exact .inr (.inr (.inl ⟨beq_iff_eq.mp h, .inl ⟨_, h1⟩⟩))
          | dctT h1 _ => exact .inr (.inr (.inl ⟨beq_iff_eq.mp h, .inr ⟨_, h1⟩⟩))
    · cases h
  · cases h
def liftM (o : Option (D × Sto)) : R D := match o with
  | some (d, S) => .ok d S
  | none => .bad
def lBM (T : String) (g : GM) (lo : LE) (t : LA) : LE := fun ρ S => (lo ρ S).bind fun d S0 => if isTy T S0 d = true then (t ρ S0).bind fun ds S1 => liftM (g S1 d ds) else .bad
section
variable {X : Cx} {o e : Expr} {es : List Expr} {lo : LE} {t : LA} {name : Str} {apos cpos : Pos} {T id : String} {g : GM}
theorem pel_bm (pa : PlainAttrs T) (slot : Slot T name id) (hty : typeOf (.builtin id) = pure (.type "method_descriptor")) (hm : MtL X id g) (ho : PEL X o lo) (ha : PAL X (e :: es) t)
    (hbase : attributeBase o name X.env (eval o X.env) = eval o X.env := by rfl)
    (hfew : ((backTo cpos (starEach (e :: es) X.env)).all (fun x => !x.1) && (backToKw cpos (keywordEach [] X.env)).all (fun x => x.1.isSome)
      && decide ((e :: es).length + ([] : List Keyword).length + (if ([] : List Keyword).isEmpty then 0 else 1) < 30)) = true := by rfl)
    (hline : (apos.endLine == cpos.line) = true := by rfl) (hs : starEach (e :: es) X.env = (false, eval e X.env) :: starEach es X.env := by rfl) (hplain : (backTo cpos (starEach es X.env)).any (·.1) = false := by rfl) :
    PEL X (.Call (.Attribute o name apos) (e :: es) [] cpos) (lBM T g lo t) := by
  refine ⟨fun pins s σ H m ρ S I x r hp => ?_⟩
  refine wpAny_Call_method_late hbase hfew hline rfl (run_seq ho I x r hp fun d S0 q0 v u s1 H1 m1 I1 rv e1 x1 w1 r1 hp1 => ?_)
  have hc := hope_if hp1
  rw [if_pos hc] at hp1
  obtain ⟨h1, h2⟩ := tyV_is I1 rv (ty_of x1 w1 hc)
  refine ⟨T, id, pa, slot, hty, h1, h2, ?_⟩
  have hA : wpAny (model X.prog X.w) X.A (spliced (backTo cpos (starEach (e :: es) X.env))) (fun us s' => wpAny (model X.prog X.w) X.A (call (.builtin id) (u :: us)) (VPr X pins σ m H (lBM T g lo t ρ S)) X.xe s') X.xe s1 :=
    run_seqA ha I1 x1 r1 hp1 fun ds S1 q1 vs us s2 H2 m2 I2 rv2 e2 x2 w2 r2 hp2 => by
      cases q2 : g S1 d ds with
      | none => rw [q2] at hp2; exact absurd rfl hp2.1
      | some z =>
        obtain ⟨d', S'⟩ := z
        have e0 : lBM T g lo t ρ S = .ok d' S' := by unfold lBM; rw [q0, bind_ok, if_pos hc, q1, bind_ok, q2]; rfl
        rw [e0]
        exact thn (hm.run pins s2 σ H2 m2 S1 S' v d d' vs ds u us I2 x2 (w1.ext e2 x1.muts) w2 rv rv2 q2) fun _ _ z => (vpr_of z).left (e1.trans e2)
  rw [hs] at hA ⊢
  exact Calls.callWith_builtin (by show (false || (backTo cpos (starEach es X.env)).any (·.1)) = false; rw [hplain] <;> rfl) (Calls.evalArgs_plain hA)
theorem pel_bm0 (pa : PlainAttrs T) (slot : Slot T name id) (hty : typeOf (.builtin id) = pure (.type "method_descriptor")) (hm : MtL X id g) (ho : PEL X o lo)
    (hbase : attributeBase o name X.env (eval o X.env) = eval o X.env := by rfl) (hline : (apos.endLine == cpos.line) = true := by rfl) : PEL X (.Call (.Attribute o name apos) [] [] cpos) (lBM T g lo aNil) := by
  refine ⟨fun pins s σ H m ρ S I x r hp => ?_⟩
  refine wpAny_Call_method0_late hbase hline (run_seq ho I x r hp fun d S0 q0 v u s1 H1 m1 I1 rv e1 x1 w1 r1 hp1 => ?_)
  have hc := hope_if hp1
  rw [if_pos hc] at hp1
  obtain ⟨h1, h2⟩ := tyV_is I1 rv (ty_of x1 w1 hc)
  refine ⟨T, id, pa, slot, hty, h1, h2, Calls.callWith_builtin rfl (PySem.evalArgs_none ?_)⟩
  have hp2 : Hope X σ m1 H1 (liftM (g S0 d [])) := hp1
  cases q2 : g S0 d [] with
  | none => rw [q2] at hp2; exact absurd rfl hp2.1
  | some z =>
    obtain ⟨d', S'⟩ := z
    have e0 : lBM T g lo aNil ρ S = .ok d' S' := by unfold lBM; rw [q0, bind_ok, if_pos hc]; show liftM (g S0 d []) = _; rw [q2]; rfl
    rw [e0]
    exact thn (hm.run pins s1 σ H1 m1 S0 S' v d d' [] [] u [] I1 x1 w1 .nil rv .nil q2) fun _ _ z => (vpr_of z).left e1
end
section
variable {X : Cx}
def stApp : GM := fun S r ds => match r, ds with
  | .ref j, [y] => match S[j]? with
    | some (.lst xs) => if xs.length < sizeLine then some (.non, S.set j (.lst (xs ++ [y]))) else none
    | _ => none
  | _, _ => none
theorem mtl_append : MtL X "list.append" stApp := ⟨fun pins s σ H m S S' x dx d xs ds v us I q r rs rv rvs e => by
  unfold stApp at e
  split at e
  · rename_i j y
    split at e
    · rename_i l q1
      split at e
      · rename_i hz
        cases e
        obtain ⟨a, rfl, ha, orr⟩ := VR.ref_at q r q1
        obtain ⟨w, rfl, rw'⟩ := rs.one
        cases orr with
        | @lst vs _ hh rr =>
          obtain ⟨z1, z2⟩ := q.write (o' := .lst (vs ++ [w])) (ob' := .lst (l ++ [y])) ha fun e => .lst upd_same ((rr.append (.cons rw' .nil)).ext e q.muts)
          exact thn (mt_append pins s σ H (.ref a) [w] v us (fun v' H' => v' = .non ∧ H' = upd H a (.lst (vs ++ [w]))) I rv rvs ⟨a, vs, w, rfl, rfl, hh, by rw [rr.length]; exact hz, rfl, rfl⟩) fun _ s' ⟨v', H', I', rv', ev, eH⟩ => by
            subst ev; subst eH
            exact ⟨.non, _, m, I', rv', z1, z2, .non⟩
      · cases e
    · cases e
  · cases e⟩
def stPopAt : GM := fun S r ds => match r, ds with
  | .ref j, [.int i] => match S[j]? with
    | some (.lst xs) => if -(2 ^ 63) ≤ i ∧ i < 2 ^ 63 then (seqIndex? i xs.length).bind fun k => (xs[k]?).map fun y => (y, S.set j (.lst (xs.eraseIdx k))) else none
    | _ => none
  | _, _ => none
theorem mtl_popAt : MtL X "list.pop" stPopAt := ⟨fun pins s σ H m S S' x dx d xs ds v us I q r rs rv rvs e => by
  unfold stPopAt at e
  split at e
  · rename_i j i
    split at e
    · rename_i l q1
      split at e
      · rename_i hz
        cases q2 : seqIndex? i l.length with
        | none => rw [q2] at e; cases e
        | some k =>
          rw [q2] at e
          cases q3 : l[k]? with
          | none => dsimp only [Option.bind] at e; rw [q3] at e; cases e
          | some y =>
            dsimp only [Option.bind] at e
            rw [q3] at e
            cases e
            obtain ⟨a, rfl, ha, orr⟩ := VR.ref_at q r q1
            obtain ⟨w, rfl, rw'⟩ := rs.one
            cases rw'
            cases orr with
            | @lst vs _ hh rr =>
              obtain ⟨y', hy, ry⟩ := rr.getr q3
              obtain ⟨z1, z2⟩ := q.write (o' := .lst (vs.eraseIdx k)) (ob' := .lst (l.eraseIdx k)) ha fun e => .lst upd_same ((rr.eraseIdx k).ext e q.muts)
              exact thn (mt_popAt pins s σ H (.ref a) [.int i] v us (fun v' H' => v' = y' ∧ H' = upd H a (.lst (vs.eraseIdx k))) I rv rvs ⟨a, vs, i, k, y', rfl, rfl, hh, hz.1, hz.2, by rw [rr.length]; exact q2, hy, rfl, rfl⟩) fun _ s' ⟨v', H', I', rv', ev, eH⟩ => by
                subst ev; subst eH
                exact ⟨_, _, m, I', rv', z1, z2, ry.ext z1 q.muts⟩
      · cases e
    · cases e
  · cases e⟩
theorem list_append_ty : typeOf (.builtin "list.append") = (pure (.type "method_descriptor") : Sem Value) := PySem.F.type_list_append
theorem list_pop_ty : typeOf (.builtin "list.pop") = (pure (.type "method_descriptor") : Sem Value) := PySem.F.type_list_pop
theorem pel_append {o e : Expr} {lo : LE} {le : LE} {apos cpos : Pos} (ho : PEL X o lo) (he : PEL X e le)
    (hbase : attributeBase o "append" X.env (eval o X.env) = eval o X.env := by rfl)
    (hfew : ((backTo cpos (starEach [e] X.env)).all (fun x => !x.1) && (backToKw cpos (keywordEach [] X.env)).all (fun x => x.1.isSome)
      && decide ([e].length + ([] : List Keyword).length + (if ([] : List Keyword).isEmpty then 0 else 1) < 30)) = true := by rfl)
    (hline : (apos.endLine == cpos.line) = true := by rfl) (hs : starEach [e] X.env = (false, eval e X.env) :: starEach [] X.env := by rfl) :
    PEL X (.Call (.Attribute o "append" apos) [e] [] cpos) (lBM "list" stApp lo (aCons le aNil)) :=
  pel_bm PySem.F.plainAttrs_list PySem.F.slot_list_append list_append_ty mtl_append ho (pal_cons he pal_nil hs) hbase hfew hline hs
theorem pel_popAt {o e : Expr} {lo : LE} {le : LE} {apos cpos : Pos} (ho : PEL X o lo) (he : PEL X e le)
    (hbase : attributeBase o "pop" X.env (eval o X.env) = eval o X.env := by rfl)
    (hfew : ((backTo cpos (starEach [e] X.env)).all (fun x => !x.1) && (backToKw cpos (keywordEach [] X.env)).all (fun x => x.1.isSome)
      && decide ([e].length + ([] : List Keyword).length + (if ([] : List Keyword).isEmpty then 0 else 1) < 30)) = true := by rfl)
    (hline : (apos.endLine == cpos.line) = true := by rfl) (hs : starEach [e] X.env = (false, eval e X.env) :: starEach [] X.env := by rfl) :
    PEL X (.Call (.Attribute o "pop" apos) [e] [] cpos) (lBM "list" stPopAt lo (aCons le aNil)) :=
  pel_bm PySem.F.plainAttrs_list PySem.F.slot_list_pop list_pop_ty mtl_popAt ho (pal_cons he pal_nil hs) hbase hfew hline hs
end
end MP

namespace MP
open PySem PySem.Spec PyProof.Rows L2

/-! ### keywords -/
structure PKL (X : Cx) (kws : List Keyword) (l : LA) : Prop where
  run : ∀ (pos : Pos) (pins : List (Addr × Obj)) (s : Shared) (σ : L2.St) (H : Hp) (m : List Addr) (ρ : Ev) (S : Sto), Inv X pins σ H s → SR X.K m H S → ER X.K m H σ ρ → Hope X σ m H (l ρ S) →
    wpAny (model X.prog X.w) X.A (evalAll ((backToKw pos (keywordEach kws X.env)).map (·.2))) (APr X pins σ m H (l ρ S)) X.xe s
section
variable {X : Cx} {e : Expr} {kws : List Keyword} {l : LE} {t : LA} {nm : Option Str} {kpos : Pos}
theorem pkl_nil : PKL X [] aNil := ⟨fun pos pins s σ H m ρ S I x r hp => wpAny_evalAll_nil ⟨[], S, [], H, m, rfl, I, .nil, Ext.refl, x, .nil⟩⟩
theorem pkl_cons (he : PEL X e l) (ht : PKL X kws t) : PKL X (⟨nm, e, kpos⟩ :: kws) (aCons l t) := by
  refine ⟨fun pos pins s σ H m ρ S I x r hp => ?_⟩
  show wpAny _ _ (evalAll ((do let v ← eval e X.env; standAt pos; pure v) :: (backToKw pos (keywordEach kws X.env)).map (·.2))) _ _ s
  refine wpAny_evalAll_cons (wpAny_bind (run_seq he I x r hp fun d S1 q1 v u s1 H1 m1 I1 rv e1 x1 w1 r1 hp1 => wpAny_bind (wpAny_standAt (wpAny_pure ?_))))
  have hp2 : Hope X σ m1 H1 (t ρ S1) := hope_seq hp1
  refine thn (ht.run pos pins s1 σ H1 m1 ρ S1 I1 x1 r1 hp2) fun us s2 ⟨ds, S2, vs, H2, m2, q2, I2, rv2, e2, x2, w2⟩ => ?_
  refine ⟨d :: ds, S2, v :: vs, H2, m2, ?_, I2, .cons rv rv2, e1.trans e2, x2, .cons (w1.ext e2 x1.muts) w2⟩
  unfold aCons
  rw [q1, bind_ok, q2]
  rfl
end
/-- the values in the parameters' order -/
def pick {α : Type} (p : List Nat) (xs : List α) : List α := p.filterMap fun i => xs[i]?
theorem vals_pick {vs : List V} {us : List Value} (r : Vals vs us) : ∀ p : List Nat, Vals (pick p vs) (pick p us)
  | [] => .nil
  | i :: p => by
    unfold pick
    cases q : vs[i]? with
    | none =>
      have h : us[i]? = none := by
        rw [List.getElem?_eq_none_iff] at q ⊢
        rw [← r.length]; exact q
      rw [List.filterMap_cons_none q, List.filterMap_cons_none h]
      exact vals_pick r p
    | some v =>
      obtain ⟨u, hu, ru⟩ := r.get q
      rw [List.filterMap_cons_some q, List.filterMap_cons_some hu]
      exact .cons ru (vals_pick r p)
theorem VRs.pick {K : PySem.W.Frag} {m : List Addr} {H : Hp} {vs : List V} {ds : List D} (r : VRs K m H vs ds) : ∀ p : List Nat, VRs K m H (MP.pick p vs) (MP.pick p ds)
  | [] => .nil
  | i :: p => by
    unfold MP.pick
    cases q : ds[i]? with
    | none =>
      have h : vs[i]? = none := by
        rw [List.getElem?_eq_none_iff] at q ⊢
        rw [r.length]; exact q
      rw [List.filterMap_cons_none q, List.filterMap_cons_none h]
      exact VRs.pick r p
    | some d =>
      obtain ⟨u, hu, ru⟩ := r.getr q
      rw [List.filterMap_cons_some q, List.filterMap_cons_some hu]
      exact .cons ru (VRs.pick r p)
/-- how a call with n values by place and keywords ks binds: p the order, ds0 the values by default -/
structure KwB (K : PySem.W.Frag) (fd : FuncData) (ps : List Str) (n : Nat) (ks : List Str) (p : List Nat) (ds0 : List Value) : Prop where
  to : ∀ (s : Shared) (us ws : List Value), K.In s.heap → us.length = n → ws.length = ks.length → BindsTo s fd ⟨us, ks.zip ws⟩ (ps.zip (pick p (us ++ ws ++ ds0)))
  len : ∀ {α : Type} (xs : List α), xs.length = n + ks.length + ds0.length → (pick p xs).length = ps.length
theorem pick_len {α : Type} : ∀ (p : List Nat) (xs : List α), p.all (fun i => decide (i < xs.length)) = true → (pick p xs).length = p.length
  | [], xs, _ => rfl
  | i :: p, xs, h => by
    rw [List.all_cons, Bool.and_eq_true] at h
    have hi := of_decide_eq_true h.1
    unfold pick
    rw [List.filterMap_cons_some (List.getElem?_eq_getElem hi), List.length_cons]
    exact congrArg Nat.succ (pick_len p xs h.2)
theorem kwb {K : PySem.W.Frag} {x qual : Str} {st : Stmt} {f : Addr} {fd : FuncData} {ps ks : List Str} {n : Nat} {p : List Nat} (F : Fun K x qual st f fd) (hp : p.length = ps.length) (ha : p.all (fun i => decide (i < n + ks.length)) = true)
    (h : ∀ (kV doc pm : Value) (an : Option Addr) (cdv ct : Value) (us ws : List Value), us.length = n → ws.length = ks.length → bindArgs (PySem.W.fnOf x qual (defArgs st) (defBody st) (defScope st) .none kV doc pm an cdv ct) ⟨us, ks.zip ws⟩ = pure (ps.zip (pick p (us ++ ws)))) : KwB K fd ps n ks p [] := by
  obtain ⟨oc, od, kV, doc, pm, an, cdv, ct, osl, rfl, lk, hcd⟩ := F.ex
  refine ⟨fun s us ws _ l1 l2 => ?_, fun xs hx => ?_⟩
  · rw [List.append_nil]
    exact .of_eq (h kV doc pm an cdv ct us ws l1 l2)
  · rw [← hp]
    exact pick_len p xs (by rw [hx]; exact ha)

section
variable {X : Cx} {e : Expr} {pos p : Pos} {es : List Expr} {kws : List Keyword} {t tk : LA} {x : Str} {k n : Nat} {f C : Addr} {fd : FuncData} {ps ks : List Str} {g : F}
theorem run_fnK {pins : List (Addr × Obj)} {σ : L2.St} {H : Hp} {s : Shared} {full : List Value} {args : Args} {vs : List V} {m : List Addr} {S : Sto} {ds : List D} (Fn : FnL X.prog X.w X.K X.mg X.base k f fd ps g) (hr : Room k X.A) (hb : BindsTo s fd args (ps.zip full))
    (I : Inv X pins σ H s) (x : SR X.K m H S) (r : Vals vs full) (rd : VRs X.K m H vs ds) (hl : vs.length = ps.length) (hp : Hope X σ m H (g ds S)) :
    wpAny (model X.prog X.w) X.A (call (.ref f) args.pos args.kw) (VPr X pins σ m H (g ds S)) X.xe s := by
  have hsp : spL X.K g ps.length vs H (fun v H' => ∃ d S', g ds S = .ok d S' ∧ QV X.K m H S' d v H') (fun cls d H' => ∃ C fs S', g ds S = .exc C fs S' ∧ WL X.K m H C fs S' cls d H') :=
    ⟨hl, m, S, ds, x, rd, hp.1, fun d S' q v H' z => ⟨d, S', q, z⟩, fun C fs S' q cls d H' z => ⟨C, fs, S', q, z⟩⟩
  refine wpAny_call (codeAny_mono (Fn.run X.A X.stack s H args full vs _ _ hr I.env0 hb r hsp) fun r s' hq => ?_)
  cases r with
  | error e =>
    cases q : g ds S with
    | bad => rw [q] at hp; exact absurd rfl hp.1
    | ok d S' =>
      obtain ⟨_, _, _, _, _, _, _, _, _, _, _, _, C, fs, S', q', _⟩ := hq
      rw [q] at q'; cases q'
    | exc C fs S' =>
      refine hp.2 C fs S' q e s' (XE.of_call I (fun cls d H' w => ?_) hq)
      obtain ⟨C', fs', S'', q', w⟩ := w
      rw [q] at q'; cases q'
      exact ⟨rfl, w⟩
  | ok fl =>
    cases fl with
    | ret u =>
      obtain ⟨v, H', I', rv, d, S', q, m', e, x', w⟩ := I.after hq
      exact ⟨d, S', q, v, H', m', I', rv, e, x', w⟩
    | next => exact False.elim hq
    | brk => exact False.elim hq
    | cont => exact False.elim hq
/-- what is bound: the values by place, the keywords', those by default -/
def kwF (n m : Nat) (g : F) (pk : List Nat) (dd : List D) (ds es : List D) (S : Sto) : R D := if ds.length = n ∧ es.length = m then g (pick pk (ds ++ es ++ dd)) S else .bad
def lCallK (n m : Nat) (g : F) (pk : List Nat) (dd : List D) (t tk : LA) : LE := fun ρ S => (t ρ S).bind fun ds S1 => (tk ρ S1).bind fun es S2 => kwF n m g pk dd ds es S2
theorem pel_callKw {pk : List Nat} {ds0 : List Value} {dvs : List V} {dd : List D} (Fn : FnL X.prog X.w X.K X.mg X.base k f fd ps g) (hr : Room k X.A) (hg : Gl X x) (hm : X.mg x = some (.ref f)) (hk : PySem.W.keepIn X.K (.ref f) = true) (hb : KwB X.K fd ps n ks pk ds0) (hd : Dfl X.K dvs ds0 dd)
    (ha : PAL X (e :: es) t) (hkw : PKL X kws tk) (hall : (backToKw pos (keywordEach kws X.env)).all (·.1.isSome) = true := by rfl) (hks : (backToKw pos (keywordEach kws X.env)).filterMap (·.1) = ks := by rfl)
    (hdb : (x == ("__debug__" : Str)) = false := by decide) (he : starEach (e :: es) X.env = (false, eval e X.env) :: starEach es X.env := by rfl)
    (hpl : ((backTo pos (starEach (e :: es) X.env)).any (·.1) || (backToKw pos (keywordEach kws X.env)).any (·.1.isNone)) = false := by rfl) :
    PEL X (.Call (.Name x p) (e :: es) kws pos) (lCallK n ks.length g pk dd t tk) := by
  refine ⟨fun pins s σ H m ρ S I x r hp => ?_⟩
  refine wpAny_Call_Name_kw (ld_glob I hg hm ?_ hdb)
  refine PySem.W.callWith_KW (h₀ := X.base) I.ok.mod.kin hk hall (run_seqA ha I x r hp fun ds S1 q1 vs us s1 H1 m1 I1 rv e1 x1 w1 r1 hp1 => ?_) hpl he
  refine thn (hkw.run pos pins s1 σ H1 m1 ρ S1 I1 x1 r1 (hope_seq hp1)) fun ws s2 ⟨zs, S2, zv, H2, m2, q2, I2, rv2, e2, x2, w2⟩ => ⟨I2.kIn, ?_⟩
  rw [q2] at hp1
  have hp2 : Hope X σ m2 H2 (kwF n ks.length g pk dd ds zs S2) := hp1.ext e2
  have hl := hope_if hp2
  unfold kwF at hp2
  rw [if_pos hl] at hp2
  have e0 : lCallK n ks.length g pk dd t tk ρ S = g (pick pk (ds ++ zs ++ dd)) S2 := by unfold lCallK; rw [q1, bind_ok, q2, bind_ok]; unfold kwF; rw [if_pos hl]
  rw [e0, hks]
  have l1 : us.length = n := by rw [← rv.length, w1.length]; exact hl.1
  have l2 : ws.length = ks.length := by rw [← rv2.length, w2.length]; exact hl.2
  have r3 : Vals (vs ++ zv ++ dvs) (us ++ ws ++ ds0) := (rv.append rv2).append hd.vals
  refine thn (run_fnK (args := ⟨us, ks.zip ws⟩) Fn hr (hb.to s2 us ws I2.kIn l1 l2) I2 x2 (vals_pick r3 pk) ((((w1.ext e2 x1.muts).append w2).append (hd.rel _ _)).pick pk) (hb.len _ ?_) hp2) fun _ _ z => z.left (e1.trans e2)
  rw [r3.length, List.length_append, List.length_append, l1, l2]
theorem pel_callKw0 {pk : List Nat} {ds0 : List Value} {dvs : List V} {dd : List D} (Fn : FnL X.prog X.w X.K X.mg X.base k f fd ps g) (hr : Room k X.A) (hg : Gl X x) (hm : X.mg x = some (.ref f)) (hk : PySem.W.keepIn X.K (.ref f) = true) (hb : KwB X.K fd ps 0 ks pk ds0) (hd : Dfl X.K dvs ds0 dd)
    (hkw : PKL X kws tk) (hall : (backToKw pos (keywordEach kws X.env)).all (·.1.isSome) = true := by rfl) (hks : (backToKw pos (keywordEach kws X.env)).filterMap (·.1) = ks := by rfl)
    (hdb : (x == ("__debug__" : Str)) = false := by decide)
    (hpl : ((backTo pos (starEach [] X.env)).any (·.1) || (backToKw pos (keywordEach kws X.env)).any (·.1.isNone)) = false := by rfl) :
    PEL X (.Call (.Name x p) [] kws pos) (lCallK 0 ks.length g pk dd aNil tk) := by
  refine ⟨fun pins s σ H m ρ S I x r hp => ?_⟩
  refine wpAny_Call_Name_kw (ld_glob I hg hm ?_ hdb)
  refine PySem.W.callWith_KW0 (h₀ := X.base) I.ok.mod.kin hk hall ?_ hpl
  have hp1 : Hope X σ m H ((tk ρ S).bind fun es S2 => kwF 0 ks.length g pk dd [] es S2) := hp
  refine thn (hkw.run pos pins s σ H m ρ S I x r (hope_seq hp1)) fun ws s2 ⟨zs, S2, zv, H2, m2, q2, I2, rv2, e2, x2, w2⟩ => ⟨I2.kIn, ?_⟩
  rw [q2] at hp1
  have hp2 : Hope X σ m2 H2 (kwF 0 ks.length g pk dd [] zs S2) := hp1.ext e2
  have hl := hope_if hp2
  unfold kwF at hp2
  rw [if_pos hl] at hp2
  have e0 : lCallK 0 ks.length g pk dd aNil tk ρ S = g (pick pk ([] ++ zs ++ dd)) S2 := by
    show ((tk ρ S).bind fun es S2 => kwF 0 ks.length g pk dd [] es S2) = _
    rw [q2, bind_ok]; unfold kwF; rw [if_pos hl]
  rw [e0, hks]
  have l2 : ws.length = ks.length := by rw [← rv2.length, w2.length]; exact hl.2
  have r3 : Vals ([] ++ zv ++ dvs) ([] ++ ws ++ ds0) := ((show Vals ([] : List V) [] from .nil).append rv2).append hd.vals
  refine thn (run_fnK (args := ⟨[], ks.zip ws⟩) Fn hr (hb.to s2 [] ws I2.kIn rfl l2) I2 x2 (vals_pick r3 pk) (((VRs.nil.append w2).append (hd.rel _ _)).pick pk) (hb.len _ ?_) hp2) fun _ _ z => z.left e2
  rw [r3.length, List.length_append, List.length_append, l2]
  rfl
theorem run_makeK {pins : List (Addr × Obj)} {σ : L2.St} {H : Hp} {s : Shared} {us : List Value} {kwv : List (Str × Value)} {full : List Value → List Value} {vs : List V} {m : List Addr} {S : Sto} {ds : List D} {gn : F} {fv : List V → List V} {fdd : List D → List D} (M : Mk X.K C f) (Fn : FnL X.prog X.w X.K X.mg X.base k f fd ps g) (hr : Room (k + 1) X.A)
    (hb : ∀ s a, X.K.In s.heap → BindsTo s fd ⟨.ref a :: us, kwv⟩ (ps.zip (full [.ref a]))) (hv : ∀ a, Vals (fv [.ref a]) (full [.ref a])) (hds : ∀ a n m H, VR X.K m H (.ref a) (.ref n) → VRs X.K m H vs ds → VRs X.K m H (fv [.ref a]) (fdd [.ref n])) (hlen : ∀ a, (fv [.ref a]).length = ps.length)
    (I : Inv X pins σ H s) (x : SR X.K m H S) (rd : VRs X.K m H vs ds) (hg : RLe S (gn ds S) ((g (fdd [.ref S.length]) (S ++ [.ins C []])).bind fun d S1 => match d with
      | .non => .ok (.ref S.length) S1
      | _ => .bad)) (hp : Hope X σ m H (gn ds S)) :
    wpAny (model X.prog X.w) X.A (call (.ref C) us kwv) (VPr X pins σ m H (gn ds S)) X.xe s := by
  obtain ⟨pd, hpd⟩ : ∃ a, a = s.heap.objs.size := ⟨_, rfl⟩
  obtain ⟨pa, hpa⟩ : ∃ a, a = s.heap.objs.size + 1 := ⟨_, rfl⟩
  have n1 : H pa = none := hpa ▸ I.hok.fresh (Nat.le_succ _)
  have n2 : H pd = none := hpd ▸ I.hok.fresh (Nat.le_refl _)
  have ne : pa ≠ pd := by omega
  have I2 := Inv.made (C := C) I
  rw [← hpa, ← hpd] at I2
  have n1' : (upd H pd (.own pa)) pa = none := by rw [upd_ne ne]; exact n1
  have x1 : SR X.K m (upd H pd (.own pa)) S := x.fresh n2
  have E1 : Ext m H m (upd H pd (.own pa)) := Ext.fresh n2
  obtain ⟨E2, x2⟩ := x1.snoc (o := .ins C pd []) (ob := .ins C []) n1' fun m' H' _ q => .ins q .nil
  have E3 := E1.trans E2
  have rd2 := hds pa S.length (m ++ [pa]) (upd (upd H pd (.own pa)) pa (.ins C pd [])) (.ref (by rw [← x.len]; simp)) (rd.ext E3 x.muts)
  generalize hG : g (fdd [.ref S.length]) (S ++ [.ins C []]) = G at hg
  have nb : G ≠ .bad := fun z => by
    rw [z] at hg
    generalize gn ds S = A at hg hp
    cases hg with
    | bad => exact hp.1 rfl
    | refl => exact hp.1 rfl
  have hsp : spL X.K g ps.length (fv [.ref pa]) (upd (upd H pd (.own pa)) pa (.ins C pd [])) (fun v H' => ∃ d S', G = .ok d S' ∧ QV X.K (m ++ [pa]) (upd (upd H pd (.own pa)) pa (.ins C pd [])) S' d v H')
      (fun cls d H' => ∃ C' fs S', G = .exc C' fs S' ∧ WL X.K (m ++ [pa]) (upd (upd H pd (.own pa)) pa (.ins C pd [])) C' fs S' cls d H') := by
    refine ⟨hlen pa, _, _, _, x2, rd2, ?_, ?_, ?_⟩
    · rw [hG]; exact nb
    · intro d S' q v H' z
      rw [hG] at q
      exact ⟨d, S', q, z⟩
    · intro C' fs S' q cls d H' z
      rw [hG] at q
      exact ⟨C', fs, S', q, z⟩
  refine wpAny_call (make_map (f := f) I.kIn M.makes M.init (beq_iff_eq.mp M.fn) ?_)
  rw [← hpa, ← hpd]
  refine codeAny_mono (Fn.run _ X.stack _ _ ⟨Value.ref pa :: us, kwv⟩ _ _ _ _ (hr.make C us kwv) (I2.env0.make C us kwv) (hb _ pa I2.kIn) (hv pa) hsp) fun r s' hq => ?_
  cases r with
  | error e =>
    obtain ⟨C', fs, S', q, w0⟩ : ∃ C' fs S', G = .exc C' fs S' ∧ XE X (fun cls d σ' H' => σ' = σ ∧ WL X.K m H C' fs S' cls d H') e s' := by
      have hx := XE.of_call (W := fun cls d σ' H' => σ' = σ ∧ ∃ C' fs S', G = .exc C' fs S' ∧ WL X.K m H C' fs S' cls d H') I2 (fun cls d H' w => by
        obtain ⟨C', fs, S', q, w⟩ := w
        exact ⟨rfl, C', fs, S', q, w.ext E3⟩) hq
      obtain ⟨_, _, _, _, _, _, _, _, _, _, _, _, _, _, _, _, _, C', fs, S', q, _⟩ := id hx
      refine ⟨C', fs, S', q, XE.imp hx fun cls d σ' H' w => ?_⟩
      obtain ⟨w1, C2, fs2, S2, q2, w2⟩ := w
      rw [q] at q2
      cases q2
      exact ⟨w1, w2⟩
    subst q
    dsimp only [R.bind] at hg
    generalize hA : gn ds S = A at hg hp
    cases hg with
    | bad => exact absurd rfl hp.1
    | refl => exact hp.2 _ _ _ rfl e s' w0
    | gcx _ _ _ h b => exact hp.2 _ _ _ rfl e s' (XE.imp w0 fun cls d σ' H' w => ⟨w.1, wl_gc x w.2 h b⟩)
  | ok fl =>
    cases fl with
    | ret u =>
      obtain ⟨v, H', I3, rv, d, S', q, m', e', x', w'⟩ := I2.after hq
      subst q
      have hn : d = .non := by
        cases d with
        | non => rfl
        | _ =>
          dsimp only [R.bind] at hg
          generalize gn ds S = A at hg hp
          cases hg with
          | bad => exact absurd rfl hp.1
          | refl => exact absurd rfl hp.1
      subst hn
      cases w'
      obtain rfl : u = Value.none := rv
      have qv : QV X.K m H S' (.ref S.length) (.ref pa) H' := ⟨m', E3.trans e', x', .ref (e'.get (by rw [← x.len]; simp))⟩
      refine ⟨rfl, ?_⟩
      dsimp only [R.bind] at hg
      generalize hA : gn ds S = A at hg hp
      cases hg with
      | bad => exact absurd rfl hp.1
      | refl =>
        obtain ⟨m2, z1, z2, z3⟩ := qv
        exact ⟨_, _, rfl, .ref pa, H', m2, I3, rfl, z1, z2, z3⟩
      | gc _ _ _ h e b =>
        subst e
        obtain ⟨m2, z1, z2, z3⟩ := qv_gc x qv h b
        exact ⟨_, _, rfl, .ref pa, H', m2, I3, rfl, z1, z2, z3⟩
    | next => exact False.elim hq
    | brk => exact False.elim hq
    | cont => exact False.elim hq
/-- C(k = v, ..): the values in the order of __init__'s parameters behind self; pk: where they stand, self being 0 -/
def kwM (m : Nat) (gn : F) (es : List D) (S : Sto) : R D := if es.length = m then gn es S else .bad
theorem pel_makeKw0 {pk : List Nat} {ds0 : List Value} {dvs : List V} {dd : List D} {gm : F} (M : Mk X.K C f) (Fn : FnL X.prog X.w X.K X.mg X.base k f fd ps g) (hr : Room (k + 1) X.A) (hg : Gl X x) (hm : X.mg x = some (.ref C)) (hb : KwB X.K fd ps 1 ks pk ds0) (hd : Dfl X.K dvs ds0 dd)
    (hgm : ∀ es S, es.length = ks.length → RLe S (gm es S) ((g (pick pk (.ref S.length :: es ++ dd)) (S ++ [.ins C []])).bind fun d S1 => match d with
      | .non => .ok (.ref S.length) S1
      | _ => .bad))
    (hkw : PKL X kws tk) (hall : (backToKw pos (keywordEach kws X.env)).all (·.1.isSome) = true := by rfl) (hks : (backToKw pos (keywordEach kws X.env)).filterMap (·.1) = ks := by rfl)
    (hdb : (x == ("__debug__" : Str)) = false := by decide)
    (hpl : ((backTo pos (starEach [] X.env)).any (·.1) || (backToKw pos (keywordEach kws X.env)).any (·.1.isNone)) = false := by rfl) :
    PEL X (.Call (.Name x p) [] kws pos) (fun ρ S => (tk ρ S).bind fun es S2 => kwM ks.length gm es S2) := by
  refine ⟨fun pins s σ H m ρ S I x r hp => ?_⟩
  refine wpAny_Call_Name_kw (ld_glob I hg hm ?_ hdb)
  refine PySem.W.callWith_KW0 (h₀ := X.base) I.ok.mod.kin M.kp hall ?_ hpl
  refine thn (hkw.run pos pins s σ H m ρ S I x r (hope_seq hp)) fun ws s2 ⟨zs, S2, zv, H2, m2, q2, I2, rv2, e2, x2, w2⟩ => ⟨I2.kIn, ?_⟩
  rw [q2] at hp ⊢
  have hp2 : Hope X σ m2 H2 (kwM ks.length gm zs S2) := hp.ext e2
  have hl := hope_if hp2
  unfold kwM at hp2
  rw [if_pos hl] at hp2
  have e0 : ((R.ok zs S2).bind fun es S2 => kwM ks.length gm es S2) = gm zs S2 := by show kwM ks.length gm zs S2 = _; unfold kwM; rw [if_pos hl]
  rw [e0, hks]
  have l2 : ws.length = ks.length := by rw [← rv2.length, w2.length]; exact hl
  refine thn (run_makeK (us := []) (kwv := ks.zip ws) (full := fun a => pick pk (a ++ ws ++ ds0)) (vs := zv) (ds := zs) (fv := fun a => pick pk (a ++ zv ++ dvs)) (fdd := fun n => pick pk (n ++ zs ++ dd)) (gn := gm) M Fn hr (fun s a hi => hb.to s [.ref a] ws hi rfl l2)
    (fun a => vals_pick (((show Vals [V.ref a] [Value.ref a] from .cons rfl .nil).append rv2).append hd.vals) pk) (fun a n m H h r => (((VRs.cons h .nil).append r).append (hd.rel _ _)).pick pk) (fun a => hb.len _ ?_) I2 x2 w2 (hgm zs S2 hl) hp2) fun _ _ z => z.left e2
  rw [List.length_append, List.length_append, rv2.length, l2, hd.vals.length]
  rfl
end
end MP

namespace MP
open PySem PySem.Spec PyProof.Rows L2
section
variable {X : Cx}
def gAdd : G2 := fun S x y => ((gAddI S x y).or (gAddS S x y)).or (gCat S x y)
theorem opl_add : OpL X (binaryOp .Add) gAdd := (opl_addI.or opl_addS).or opl_catT
theorem opl_mul : OpL X (binaryOp .Mult) gMulI := opl_mulI
end
end MP

namespace MP
open PySem PySem.Spec PyProof.Rows L2
theorem lg_lt {i : Int} {k : Nat} (h : i.natAbs < 2 ^ k) (hk : 0 < k) : i.natAbs.log2 < k := by
  by_cases z : i.natAbs = 0
  · rw [z]; simpa using hk
  · exact (Nat.log2_lt z).mpr h
theorem abs_lt {i : Int} {n : Nat} (h1 : -(n : Int) < i) (h2 : i < n) : i.natAbs < n := by omega
/-- a number of at most 600 figures -/
def Sm (i : Int) : Prop := -(10 ^ 250) < i ∧ i < 10 ^ 250
theorem Sm.lg {i : Int} (h : Sm i) : i.natAbs.log2 < 900 := by
  refine lg_lt (Nat.lt_of_lt_of_le (abs_lt (n := 10 ^ 250) ?_ ?_) (by decide +kernel)) (by decide)
  · have := h.1; simpa using this
  · have := h.2; simpa using this
theorem Sm.of {i : Int} (h0 : 0 ≤ i) {n : Int} (h1 : i < n) (hn : n ≤ 10 ^ 250) : Sm i := by
  have : (0 : Int) < 10 ^ 250 := by decide +kernel
  exact ⟨by omega, by omega⟩
theorem mul_ii {S : Sto} {i j : Int} (h : Sm i) (h' : Sm j) : gMulI S (.int i) (.int j) = some (.int (i * j)) := by
  have a := h.lg
  have b := h'.lg
  show (if i.natAbs.log2 + j.natAbs.log2 < 1000000 then some (D.int (i * j)) else none) = _
  rw [if_pos (by omega)]
theorem div_ii {S : Sto} {i j : Int} (h0 : 0 < j) (h : Sm j) : gDiv S (.int i) (.int j) = some (.int (i / j)) := by
  have a := h.lg
  show (if 0 < j ∧ j.natAbs.log2 < 9000 then some (D.int (i / j)) else none) = _
  rw [if_pos ⟨h0, by omega⟩]
theorem mod_ii {S : Sto} {i j : Int} (h0 : 0 < j) : gMod S (.int i) (.int j) = some (.int (i % j)) := by
  show (if 0 < j then some (D.int (i % j)) else none) = _
  rw [if_pos h0]
theorem pow_ii {S : Sto} {i j : Int} (h : 0 ≤ j ∧ j ≤ 1000000 ∧ i.natAbs < 2 ^ 64) : gPow S (.int i) (.int j) = some (.int (i ^ j.toNat)) := by
  show (if 0 ≤ j ∧ j ≤ 1000000 ∧ i.natAbs < 2 ^ 64 then some (D.int (i ^ j.toNat)) else none) = _
  rw [if_pos h]
theorem add_ii {S : Sto} {i j : Int} : gAdd S (.int i) (.int j) = some (.int (i + j)) := rfl
theorem add_ss {S : Sto} {i j : Str} (h : i.length + j.length ≤ sizeLine) : gAdd S (.str i) (.str j) = some (.str (i ++ j)) := by
  show ((if i.length + j.length ≤ sizeLine then some (D.str (i ++ j)) else none).or (gCat S (.str i) (.str j))) = _
  rw [if_pos h]; rfl
theorem eq_ii {S : Sto} {i j : Int} : gEq S (.int i) (.int j) = some (.bl (decide (i = j))) := rfl
theorem ne_ii {S : Sto} {i j : Int} : gNe S (.int i) (.int j) = some (.bl (!decide (i = j))) := rfl
theorem eq_ss {S : Sto} {i j : Str} : gEq S (.str i) (.str j) = some (.bl (decide (i = j))) := rfl
theorem ne_ss {S : Sto} {i j : Str} : gNe S (.str i) (.str j) = some (.bl (!decide (i = j))) := rfl
theorem eq_bb {S : Sto} {i j : Bool} : gEq S (.bl i) (.bl j) = some (.bl (decide (i = j))) := rfl
theorem eqv2 {a b c d : Int} : PyData.eqv (.tuple [.int a, .int b]) (.tuple [.int c, .int d]) = decide (a = c ∧ b = d) := by
  rw [Bool.eq_iff_iff]; simp [PyData.eqv, PyData.eqvAll]
theorem eq_t2 {S : Sto} {a b c d : Int} : gEq S (.tup [.int a, .int b]) (.tup [.int c, .int d]) = some (.bl (decide (a = c ∧ b = d))) := by
  show ((if SeqAt.shaped (.tuple [.int a, .int b]) = true ∧ SeqAt.shaped (.tuple [.int c, .int d]) = true then some (PyData.eqv (.tuple [.int a, .int b]) (.tuple [.int c, .int d])) else none).map D.bl) = _
  rw [if_pos ⟨by rfl, by rfl⟩, eqv2]; rfl
theorem ne_t2 {S : Sto} {a b c d : Int} : gNe S (.tup [.int a, .int b]) (.tup [.int c, .int d]) = some (.bl (!decide (a = c ∧ b = d))) := by
  show ((if SeqAt.shaped (.tuple [.int a, .int b]) = true ∧ SeqAt.shaped (.tuple [.int c, .int d]) = true then some (PyData.eqv (.tuple [.int a, .int b]) (.tuple [.int c, .int d])) else none).map fun b => D.bl (!b)) = _
  rw [if_pos ⟨by rfl, by rfl⟩, eqv2]; rfl
/-! ### how the words compute -/
theorem bin_ok {g : G2} {la lb : LE} {ρ : Ev} {S S1 S2 : Sto} {x y d : D} (h1 : la ρ S = .ok x S1) (h2 : lb ρ S1 = .ok y S2) (h3 : g S2 x y = some d) : lBin g la lb ρ S = .ok d S2 := by
  unfold lBin; rw [h1, bind_ok, h2, bind_ok, h3]; rfl
theorem tru_ok {l : LE} {ρ : Ev} {S S1 : Sto} {d : D} {b : Bool} (h1 : l ρ S = .ok d S1) (h2 : truth S1 d = some b) : tTru l ρ S = .ok b S1 := by
  unfold tTru; rw [h1, bind_ok, h2]; rfl
theorem acons_ok {l : LE} {t : LA} {ρ : Ev} {S S1 S2 : Sto} {d : D} {ds : List D} (h1 : l ρ S = .ok d S1) (h2 : t ρ S1 = .ok ds S2) : aCons l t ρ S = .ok (d :: ds) S2 := by
  unfold aCons; rw [h1, bind_ok, h2]; rfl
theorem callb_ok {g : GC} {t : LA} {ρ : Ev} {S S1 : Sto} {d : D} {ds : List D} (h1 : t ρ S = .ok ds S1) (h2 : g S1 ds = some d) : lCallB g t ρ S = .ok d S1 := by
  unfold lCallB; rw [h1, bind_ok, h2]; rfl
theorem call_ok {g : F} {n : Nat} {t : LA} {ρ : Ev} {S S1 : Sto} {ds dd : List D} {r : R D} (h1 : t ρ S = .ok ds S1) (h2 : ds.length + dd.length = n) (h3 : g (ds ++ dd) S1 = r) : lCall n g dd t ρ S = r := by
  unfold lCall; rw [h1, bind_ok, if_pos h2, h3]
theorem tup_ok {t : LA} {ρ : Ev} {S S1 : Sto} {ds : List D} (h1 : t ρ S = .ok ds S1) (h : ds.length ≤ 1000) : lTup t ρ S = .ok (.tup ds) S1 := by
  unfold lTup; rw [h1, bind_ok, if_pos (Nat.le_trans h (by decide))]
theorem lst_ok {t : LA} {ρ : Ev} {S S1 : Sto} {ds : List D} (h1 : t ρ S = .ok ds S1) (h : ds.length ≤ 1000) : lLst t ρ S = .ok (.lst ds) S1 := by
  unfold lLst; rw [h1, bind_ok, if_pos (Nat.le_trans h (by decide))]
theorem lstN_ok {t : LA} {ρ : Ev} {S S1 : Sto} {ds : List D} (h1 : t ρ S = .ok ds S1) (h : ds.length ≤ 1000) : lLstN t ρ S = .ok (.ref S1.length) (S1 ++ [.lst ds]) := by
  unfold lLstN; rw [h1, bind_ok, if_pos (Nat.le_trans h (by decide))]
theorem fld_ok {C : Addr} {f : Str} {l : LE} {ρ : Ev} {S S1 : Sto} {d e : D} (h1 : l ρ S = .ok d S1) (h2 : gFld C f S1 d = some e) : lFld C f l ρ S = .ok e S1 := by
  unfold lFld; rw [h1, bind_ok, h2]; rfl
theorem set_ok {i : Nat} {l : LE} {ρ : Ev} {S S1 : Sto} {d : D} (h : l ρ S = .ok d S1) : lSet i l ρ S = .ok (.nx (ρ.set i (some d))) S1 := by
  unfold lSet; rw [h]; rfl
theorem ret_ok {l : LE} {ρ : Ev} {S S1 : Sto} {d : D} (h : l ρ S = .ok d S1) : lRet l ρ S = .ok (.rt d) S1 := by
  unfold lRet; rw [h]; rfl
theorem expr_ok {l : LE} {ρ : Ev} {S S1 : Sto} {d : D} (h : l ρ S = .ok d S1) : lExpr l ρ S = .ok (.nx ρ) S1 := by
  unfold lExpr; rw [h]; rfl
theorem seq_nx {l1 l2 : LS} {ρ ρ' : Ev} {S S1 : Sto} {r : R Fl} (h : l1 ρ S = .ok (.nx ρ') S1) (h2 : l2 ρ' S1 = r) : lSeq l1 l2 ρ S = r := by
  unfold lSeq; rw [h, bind_ok]; exact h2
theorem seq_rt {l1 l2 : LS} {ρ : Ev} {S S1 : Sto} {d : D} (h : l1 ρ S = .ok (.rt d) S1) : lSeq l1 l2 ρ S = .ok (.rt d) S1 := by
  unfold lSeq; rw [h, bind_ok]; rfl
theorem if_tt {tc : LT} {l1 l2 : LS} {ρ : Ev} {S S1 : Sto} {r : R Fl} (h : tc ρ S = .ok true S1) (h2 : l1 ρ S1 = r) : lIfS tc l1 l2 ρ S = r := by
  unfold lIfS; rw [h]; exact h2
theorem if_ff {tc : LT} {l1 l2 : LS} {ρ : Ev} {S S1 : Sto} {r : R Fl} (h : tc ρ S = .ok false S1) (h2 : l2 ρ S1 = r) : lIfS tc l1 l2 ρ S = r := by
  unfold lIfS; rw [h]; exact h2
theorem par_ok {i j : Nat} {t : LA} {ρ : Ev} {S S1 : Sto} {a b : D} (h : t ρ S = .ok [a, b] S1) : lPar i j t ρ S = .ok (.nx ((ρ.set i (some a)).set j (some b))) S1 := by
  unfold lPar; rw [h]; rfl
theorem stS_ok {g : Sto → D → D → D → Option Sto} {lo li le : LE} {ρ : Ev} {S S1 S2 S3 S4 : Sto} {d r k : D} (h1 : le ρ S = .ok d S1) (h2 : lo ρ S1 = .ok r S2) (h3 : li ρ S2 = .ok k S3) (h4 : g S3 r k d = some S4) : lStS g lo li le ρ S = .ok (.nx ρ) S4 := by
  unfold lStS; rw [h1]; show liftX ρ (lo ρ S1) _ = _; rw [h2]; show liftX ρ (li ρ S2) _ = _; rw [h3]; show liftS _ ρ = _; rw [h4]; rfl
theorem stF_ok {C : Addr} {f : Str} {lo le : LE} {ρ : Ev} {S S1 S2 S3 : Sto} {d r : D} (h1 : le ρ S = .ok d S1) (h2 : lo ρ S1 = .ok r S2) (h3 : stFld C f S2 r d = some S3) : lStF C f lo le ρ S = .ok (.nx ρ) S3 := by
  unfold lStF; rw [h1]; show liftX ρ (lo ρ S1) _ = _; rw [h2]; show liftS _ ρ = _; rw [h3]; rfl
theorem bm_ok {T : String} {g : GM} {lo : LE} {t : LA} {ρ : Ev} {S S1 S2 S3 : Sto} {d e : D} {ds : List D} (h1 : lo ρ S = .ok d S1) (h2 : isTy T S1 d = true) (h3 : t ρ S1 = .ok ds S2) (h4 : g S2 d ds = some (e, S3)) : lBM T g lo t ρ S = .ok e S3 := by
  unfold lBM; rw [h1, bind_ok, if_pos h2, h3, bind_ok, h4]; rfl
theorem meth_ok {C : Addr} {mn : Str} {n : Nat} {g : F} {lo : LE} {t : LA} {ρ : Ev} {S S1 S2 : Sto} {d : D} {ds dd : List D} {r : R D} (h1 : lo ρ S = .ok d S1) (h2 : recv C mn S1 d = true) (h3 : t ρ S1 = .ok ds S2) (h4 : (ds.length + dd.length) + 1 = n) (h5 : g (d :: (ds ++ dd)) S2 = r) : lMeth C mn n g dd lo t ρ S = r := by
  unfold lMeth; rw [h1, bind_ok, if_pos h2, h3, bind_ok, if_pos h4, h5]
theorem body_rt {n : Nat} {lb : LS} {ds : List D} {S S' : Sto} {d : D} (h : lb (ds.map some ++ List.replicate (n - ds.length) none) S = .ok (.rt d) S') : bodyF n lb ds S = .ok d S' := by
  unfold bodyF; rw [h]; rfl
theorem body_nx {n : Nat} {lb : LS} {ds : List D} {ρ : Ev} {S S' : Sto} (h : lb (ds.map some ++ List.replicate (n - ds.length) none) S = .ok (.nx ρ) S') : bodyF n lb ds S = .ok .non S' := by
  unfold bodyF; rw [h]; rfl
theorem and_tt {ta tb : LT} {ρ : Ev} {S S1 : Sto} {r : R Bool} (h : ta ρ S = .ok true S1) (h2 : tb ρ S1 = r) : tAnd ta tb ρ S = r := by
  unfold tAnd; rw [h, bind_ok, if_pos rfl]; exact h2
theorem and_ff {ta tb : LT} {ρ : Ev} {S S1 : Sto} (h : ta ρ S = .ok false S1) : tAnd ta tb ρ S = .ok false S1 := by
  unfold tAnd; rw [h, bind_ok]; rfl
theorem or_tt {ta tb : LT} {ρ : Ev} {S S1 : Sto} (h : ta ρ S = .ok true S1) : tOr ta tb ρ S = .ok true S1 := by
  unfold tOr; rw [h, bind_ok]; rfl
theorem or_ff {ta tb : LT} {ρ : Ev} {S S1 : Sto} {r : R Bool} (h : ta ρ S = .ok false S1) (h2 : tb ρ S1 = r) : tOr ta tb ρ S = r := by
  unfold tOr; rw [h, bind_ok]; exact h2
theorem not_ok {ta : LT} {ρ : Ev} {S S1 : Sto} {b : Bool} (h : ta ρ S = .ok b S1) : tNot ta ρ S = .ok (!b) S1 := by
  unfold tNot; rw [h, bind_ok]
theorem while_go {ρ0 ρ : Ev} {tc : LT} {lb : LS} {n : Nat} {S S1 S2 : Sto} {ρ' : Ev} {r : R Fl} (h : tc ρ S = .ok true S1) (h2 : lb ρ S1 = .ok (.nx ρ') S2) (h3 : whileG ρ0 tc lb n (wk ρ0 ρ') S2 = r) : whileG ρ0 tc lb (n + 1) ρ S = r := by
  unfold whileG; rw [h]; show (lb ρ S1).bind _ = _; rw [h2, bind_ok]; exact h3
theorem while_end {ρ0 ρ : Ev} {tc : LT} {lb : LS} {n : Nat} {S S1 : Sto} (h : tc ρ S = .ok false S1) : whileG ρ0 tc lb (n + 1) ρ S = .ok (.nx ρ) S1 := by
  unfold whileG; rw [h]; rfl
theorem for_go {ρ0 ρ ρ1 ρ' : Ev} {chk : Sto → Prop} {g : GT} {lb : LS} {d : D} {ds : List D} {S S1 : Sto} {r : R Fl} (hc : chk S) (hg : g d ρ = some ρ1) (h : lb ρ1 S = .ok (.nx ρ') S1) (h2 : forG ρ0 chk g lb ds (wk ρ0 ρ') S1 = r) : forG ρ0 chk g lb (d :: ds) ρ S = r := by
  unfold forG; rw [if_pos hc, hg]; show (lb ρ1 S).bind _ = _; rw [h, bind_ok]; exact h2
theorem for_end {ρ0 ρ : Ev} {chk : Sto → Prop} {g : GT} {lb : LS} {S : Sto} (hc : chk S) : forG ρ0 chk g lb [] ρ S = .ok (.nx ρ) S := by
  unfold forG; rw [if_pos hc]
theorem comp_go {ρ0 ρ1 : Ev} {chk : Sto → Prop} {g : GT} {te : LE} {d y : D} {ds ys : List D} {S S1 S2 : Sto} (hc : chk S) (hg : g d ρ0 = some ρ1) (h : te ρ1 S = .ok y S1) (h2 : compG chk g tYesL te ρ0 ds S1 = .ok ys S2) : compG chk g tYesL te ρ0 (d :: ds) S = .ok (y :: ys) S2 := by
  unfold compG; rw [if_pos hc, hg]; show (noex (te ρ1 S)).bind _ = _; rw [h]; show (compG chk g tYesL te ρ0 ds S1).bind _ = _; rw [h2]; rfl
theorem comp_end {ρ0 : Ev} {chk : Sto → Prop} {g : GT} {tt : LT} {te : LE} {S : Sto} (hc : chk S) : compG chk g tt te ρ0 [] S = .ok [] S := by
  unfold compG; rw [if_pos hc]
end MP

namespace MP
open PySem PySem.Spec PyProof.Rows L2
/-! ### more of how the words compute -/
theorem tru_b {l : LE} {ρ : Ev} {S S1 : Sto} {b b' : Bool} (h : l ρ S = .ok (.bl b) S1) (e : b = b') : tTru l ρ S = .ok b' S1 := e ▸ tru_ok h rfl
theorem ix_ref {S : Sto} {j : Nat} {xs : List D} {k : Int} {d : D} (h : S[j]? = some (.lst xs)) (h2 : atI xs k = some d) : gIx S (.ref j) (.int k) = some d := by
  unfold gIx
  have e : vw S (.ref j) = .lst xs := by unfold vw; dsimp only; rw [h]
  rw [e]; exact h2
theorem sub_ok {S : Sto} {j n : Nat} {xs : List D} {k : Int} {d : D} (h : S[j]? = some (.lst xs)) (h2 : ixN xs.length k = some n) : stSeq S (.ref j) (.int k) d = some (S.set j (.lst (xs.set n d))) := by
  unfold stSeq; dsimp only; rw [h]; dsimp only; rw [h2]; rfl
theorem app_ok {S : Sto} {j : Nat} {xs : List D} {d : D} (h : S[j]? = some (.lst xs)) (h2 : xs.length < 1000) : stApp S (.ref j) [d] = some (.non, S.set j (.lst (xs ++ [d]))) := by
  unfold stApp; dsimp only; rw [h]; dsimp only; rw [if_pos (Nat.lt_of_lt_of_le h2 (by decide))]
theorem pop0_ok {S : Sto} {j : Nat} {xs : List D} {d : D} (h : S[j]? = some (.lst (d :: xs))) : stPopAt S (.ref j) [.int 0] = some (d, S.set j (.lst xs)) := by
  unfold stPopAt; dsimp only; rw [h]; dsimp only
  rw [if_pos (by decide)]
  have e : seqIndex? 0 (d :: xs).length = some 0 := by
    have := ixN_seq (n := (d :: xs).length) (i := 0) (j := 0) (by unfold ixN; rw [if_pos (by decide), if_pos (by simp)]; rfl)
    exact this.1
  rw [e]; rfl
theorem ty_lst {S : Sto} {j : Nat} {xs : List D} (h : S[j]? = some (.lst xs)) : isTy "list" S (.ref j) = true := by
  unfold isTy
  have e : vw S (.ref j) = .lst xs := by unfold vw; dsimp only; rw [h]
  rw [e]; rfl
theorem last_at {S : Sto} {o : O} : (S ++ [o])[S.length]? = some o := by simp
theorem last_set {S : Sto} {o o' : O} : (S ++ [o]).set S.length o' = S ++ [o'] := by simp
theorem for_ok {li : LI} {g : GT} {lb : LS} {ρ : Ev} {S S1 : Sto} {it : Its'} {r : R Fl} (h : li ρ S = .ok it S1) (h2 : forG ρ it.chk g lb it.items ρ S1 = r) : lFor li g lb ρ S = r := by
  unfold lFor; rw [h]; exact h2
theorem enum_ok {t : LA} {ρ : Ev} {S S1 : Sto} {xs : List D} (h : t ρ S = .ok [.lst xs] S1) : lEnum t ρ S = .ok ⟨enumD xs, fun _ => True⟩ S1 := by
  unfold lEnum; rw [h, bind_ok]
theorem toPDs_int : ∀ own : List Int, toPDs (own.map D.int) = some (own.map PyData.int)
  | [] => rfl
  | x :: r => by simp [toPDs, toPD, toPDs_int r]
theorem canLay_int : ∀ own : List Int, PyData.canLayAll0 (own.map PyData.int) = true
  | [] => rfl
  | x :: r => by simp [PyData.canLayAll0, PyData.canLay0, canLay_int r]
end MP

namespace MP
open PySem PySem.Spec PyProof.Rows L2
theorem depth_int : ∀ own : List Int, PyData.depthAll (own.map PyData.int) ≤ 1
  | [] => by simp [PyData.depthAll]
  | x :: r => by
    have := depth_int r
    simp only [List.map_cons, PyData.depthAll, PyData.depth]
    omega
theorem shaped_int (own : List Int) : SeqAt.shaped (.list (own.map PyData.int)) = true := by
  unfold SeqAt.shaped
  have h := depth_int own
  have e : (PyData.list (own.map PyData.int)).depth ≤ 64 := by
    simp only [PyData.depth]
    omega
  rw [Bool.and_eq_true]
  exact ⟨by simp only [PyData.canLay0]; exact canLay_int own, decide_eq_true e⟩
theorem eqv_nil (own : List Int) : PyData.eqv (.list (own.map PyData.int)) (.list []) = own.isEmpty := by
  cases own <;> simp [PyData.eqv, PyData.eqvAll]
theorem ne_nil {S : Sto} {i : Nat} {own : List Int} (h : S[i]? = some (.lst (own.map D.int))) : gNe S (.ref i) (.lst []) = some (.bl (!own.isEmpty)) := by
  have e : vw S (.ref i) = .lst (own.map D.int) := by unfold vw; dsimp only; rw [h]
  have e2 : eqP S (.ref i) (.lst []) = some own.isEmpty := by
    unfold eqP
    rw [e]
    have e3 : toPD (.lst (own.map D.int)) = some (.list (own.map PyData.int)) := by simp [toPD, toPDs_int]
    have e4 : toPD (vw S (.lst [])) = some (.list []) := by rfl
    rw [e3, e4]
    show (if SeqAt.shaped (.list (own.map PyData.int)) = true ∧ SeqAt.shaped (.list []) = true then some (PyData.eqv (.list (own.map PyData.int)) (.list [])) else none) = _
    rw [if_pos ⟨shaped_int own, shaped_int []⟩, eqv_nil]
  unfold gNe eqD
  rw [e2]
  rfl

/-! ### the law's own draws: the pot -/
def Pot (n : Int) (S : Sto) (d : D) : Prop := ∃ (j i : Nat) (own : List Int) (seed cnt : Int), d = .ref j ∧ i ≠ j ∧ S[j]? = some (.lst [.ref i, .int seed, .int cnt]) ∧ S[i]? = some (.lst (own.map D.int)) ∧ own.length ≤ 63 ∧ (∀ z ∈ own, 0 ≤ z ∧ z < 10 ^ 120) ∧ 0 ≤ seed ∧ seed < 10 ^ 30 ∧ 0 ≤ cnt ∧ cnt ≤ n
theorem Pot.mono {n n' : Int} {S : Sto} {d : D} (h : Pot n S d) (hn : n ≤ n') : Pot n' S d := by
  obtain ⟨j, i, own, seed, cnt, h1, h2, h3, h4, h5, h6, h7, h8, h9, h10⟩ := h
  exact ⟨j, i, own, seed, cnt, h1, h2, h3, h4, h5, h6, h7, h8, h9, by omega⟩
def SBegin (g : F) : Prop := ∀ (S : Sto) (ns : List Int), ns.length ≤ 63 → ∃ d S', g [.lst (ns.map D.int)] S = .ok d S' ∧ Pot 0 S' d
def STake (g : F) : Prop := ∀ (n : Int) (S : Sto) (d : D) (wd : Int), Pot n S d → n < 10 ^ 30 → 0 < wd → wd < 10 ^ 200 → ∃ v S', g [d, .int wd] S = .ok (.int v) S' ∧ 0 ≤ v ∧ v < wd ∧ Pot (n + 1) S' d
def SOf (g : F) : Prop := ∀ (n : Int) (S : Sto) (d : D) (xs : List D), Pot n S d → n < 10 ^ 30 → xs ≠ [] → xs.length ≤ 1000 → ∃ y S', y ∈ xs ∧ g [d, .lst xs] S = .ok y S' ∧ Pot (n + 1) S' d
theorem of_spec {g : F} (St : STake g) : SOf (bodyF 2 (lRet (lBin gIx (lVar 1) (lCall 2 g [] (aCons (lVar 0) (aCons (lCallB gLen (aCons (lVar 1) aNil)) aNil)))))) := by
  intro n S d xs hp hn hx hl
  have hz : 0 < xs.length := by cases xs with
    | nil => exact absurd rfl hx
    | cons _ _ => simp
  have b2 : (1000 : Int) < 10 ^ 200 := by decide +kernel
  have hb2 : (xs.length : Int) < 10 ^ 200 := by omega
  obtain ⟨v, S', e, h0, h1, hp'⟩ := St n S d (xs.length : Int) hp hn (by omega) hb2
  have hv : v.toNat < xs.length := by omega
  refine ⟨xs[v.toNat], S', List.getElem_mem hv, body_rt (ret_ok (bin_ok rfl (call_ok (acons_ok rfl (acons_ok (callb_ok (acons_ok rfl rfl) rfl) rfl)) rfl e) ?_)), hp'⟩
  show atI xs v = _
  unfold atI ixN
  rw [if_pos h0, if_pos h1]
  exact List.getElem?_eq_getElem hv

/-- the draws begin -/
def begStep : LS := (lSeq
              (lSet 1
                (lBin gMod
                  (lBin gAdd
                    (lBin gAdd (lBin gMulI (lVar 1) (lC (D.int 1000003)))
                      (lBin gMod (lVar 4) (lBin gPow (lC (D.int 10)) (lC (D.int 30)))))
                    (lBin gMulI (lC (D.int 31)) (lVar 3)))
                  (lC (D.int 2305843009213693951))))
              (lIfS (tTru (lBin gGeI (lCallB gAbs (aCons (lVar 4) aNil)) (lBin gPow (lC (D.int 10)) (lC (D.int 18)))))
                (lExpr
                  (lBM "list" stApp (lVar 2)
                    (aCons
                      (lBin gMod (lCallB gAbs (aCons (lVar 4) aNil))
                        (lBin gMulI (lBin gPow (lC (D.int 10)) (lC (D.int 60)))
                          (lBin gPow (lC (D.int 10)) (lC (D.int 60)))))
                      aNil)))
                lNext))
def begG : GT := gtTup 2 (gtCons (gtName 3) (gtCons (gtName 4) gtNil))
theorem beg_step (sc : D) (seed k z : Int) (own : List Int) (S0 : Sto) (h0 : 0 ≤ seed) (h1 : seed < 10 ^ 30) (k0 : 0 ≤ k) (k1 : k < 1000) (hl : own.length < 63) (ho : ∀ z ∈ own, 0 ≤ z ∧ z < 10 ^ 120) :
    ∃ (seed' : Int) (own' : List Int), 0 ≤ seed' ∧ seed' < 10 ^ 30 ∧ own'.length ≤ own.length + 1 ∧ (∀ z ∈ own', 0 ≤ z ∧ z < 10 ^ 120) ∧
      begStep [some sc, some (.int seed), some (.ref S0.length), some (.int k), some (.int z)] (S0 ++ [.lst (own.map D.int)]) = .ok (.nx [some sc, some (.int seed'), some (.ref S0.length), some (.int k), some (.int z)]) (S0 ++ [.lst (own'.map D.int)]) := by
  have p30 : (10 : Int) ^ (30 : Int).toNat = 10 ^ 30 := rfl
  have b30 : (0 : Int) < 10 ^ 30 := by decide +kernel
  have sm1 : Sm seed := Sm.of h0 h1 (by decide +kernel)
  have smk : Sm k := Sm.of k0 k1 (by decide +kernel)
  have smc : ∀ c : Int, 0 ≤ c → c < 10 ^ 120 → Sm c := fun c a b => Sm.of a b (by decide +kernel)
  have hset := set_ok (i := 1) (bin_ok (bin_ok (bin_ok (bin_ok (ρ := [some sc, some (D.int seed), some (D.ref S0.length), some (D.int k), some (D.int z)]) (S := S0 ++ [.lst (own.map D.int)]) (la := lVar 1) (lb := lC (.int 1000003)) rfl rfl (mul_ii sm1 (smc _ (by decide) (by decide +kernel)))) (bin_ok (la := lVar 4) rfl (bin_ok (la := lC (.int 10)) (lb := lC (.int 30)) rfl rfl (pow_ii ⟨by decide, by decide, by decide⟩)) (mod_ii (by rw [p30]; exact b30))) add_ii)
    (bin_ok (la := lC (.int 31)) (lb := lVar 3) rfl rfl (mul_ii (smc _ (by decide) (by decide +kernel)) smk)) add_ii) (lb := lC (.int 2305843009213693951)) rfl (mod_ii (by decide)))
  have m0 := Int.emod_nonneg (seed * 1000003 + z % (10 : Int) ^ (30 : Int).toNat + 31 * k) (b := 2305843009213693951) (by decide)
  have m1 := Int.emod_lt_of_pos (seed * 1000003 + z % (10 : Int) ^ (30 : Int).toNat + 31 * k) (b := 2305843009213693951) (by decide)
  have m2 : (2305843009213693951 : Int) < 10 ^ 30 := by decide +kernel
  generalize hs : (seed * 1000003 + z % (10 : Int) ^ (30 : Int).toNat + 31 * k) % 2305843009213693951 = seed' at hset m0 m1
  have habs : ∀ ρ S, lVar 4 ρ S = .ok (.int z) S → lCallB gAbs (aCons (lVar 4) aNil) ρ S = .ok (.int (if z < 0 then -z else z)) S := fun ρ S h => callb_ok (acons_ok h rfl) rfl
  by_cases hz : (10 : Int) ^ (18 : Int).toNat ≤ (if z < 0 then -z else z)
  · have q0 : (0 : Int) < 10 ^ (60 : Int).toNat * 10 ^ (60 : Int).toNat := by decide +kernel
    have q1 : (10 : Int) ^ (60 : Int).toNat * 10 ^ (60 : Int).toNat = 10 ^ 120 := by decide +kernel
    have s60 : Sm ((10 : Int) ^ (60 : Int).toNat) := ⟨by decide +kernel, by decide +kernel⟩
    refine ⟨seed', own ++ [(if z < 0 then -z else z) % (10 ^ (60 : Int).toNat * 10 ^ (60 : Int).toNat)], m0, by omega, by simp, fun y hy => ?_, ?_⟩
    · rw [List.mem_append, List.mem_singleton] at hy
      rcases hy with hy | rfl
      · exact ho y hy
      · exact ⟨Int.emod_nonneg _ (Int.ne_of_gt q0), by rw [← q1]; exact Int.emod_lt_of_pos _ q0⟩
    · refine seq_nx hset (if_tt (tru_b (bin_ok (habs _ _ rfl) (bin_ok (la := lC (.int 10)) (lb := lC (.int 18)) rfl rfl (pow_ii ⟨by decide, by decide, by decide⟩)) rfl) (decide_eq_true hz)) ?_)
      have ha : lBM "list" stApp (lVar 2) (aCons (lBin gMod (lCallB gAbs (aCons (lVar 4) aNil)) (lBin gMulI (lBin gPow (lC (D.int 10)) (lC (D.int 60))) (lBin gPow (lC (D.int 10)) (lC (D.int 60))))) aNil) [some sc, some (D.int seed'), some (D.ref S0.length), some (D.int k), some (D.int z)] (S0 ++ [.lst (own.map D.int)]) = _ :=
        bm_ok (d := .ref S0.length) rfl (ty_lst last_at) (acons_ok (bin_ok (habs _ _ rfl) (bin_ok (bin_ok (la := lC (.int 10)) (lb := lC (.int 60)) rfl rfl (pow_ii ⟨by decide, by decide, by decide⟩)) (bin_ok (la := lC (.int 10)) (lb := lC (.int 60)) rfl rfl (pow_ii ⟨by decide, by decide, by decide⟩)) (mul_ii s60 s60)) (mod_ii q0)) rfl) (app_ok last_at (by rw [List.length_map]; omega))
      rw [last_set] at ha
      have hx := expr_ok ha
      rw [List.map_append]
      exact hx
  · refine ⟨seed', own, m0, by omega, by omega, ho, ?_⟩
    exact seq_nx hset (if_ff (tru_b (bin_ok (habs _ _ rfl) (bin_ok (la := lC (.int 10)) (lb := lC (.int 18)) rfl rfl (pow_ii ⟨by decide, by decide, by decide⟩)) rfl) (decide_eq_false hz)) rfl)
theorem beg_loop (sc a b : D) (S0 : Sto) : ∀ (items : List D) (own : List Int) (seed : Int) (x y : Option D), (∀ d ∈ items, ∃ k z : Int, d = .tup [.int k, .int z] ∧ 0 ≤ k ∧ k < 1000) → own.length + items.length ≤ 63 → 0 ≤ seed → seed < 10 ^ 30 → (∀ z ∈ own, 0 ≤ z ∧ z < 10 ^ 120) →
    ∃ (seed' : Int) (own' : List Int) (x' y' : Option D), 0 ≤ seed' ∧ seed' < 10 ^ 30 ∧ own'.length ≤ 63 ∧ (∀ z ∈ own', 0 ≤ z ∧ z < 10 ^ 120) ∧
      forG [some sc, some a, some b, none, none] (fun _ => True) begG begStep items [some sc, some (.int seed), some (.ref S0.length), x, y] (S0 ++ [.lst (own.map D.int)]) = .ok (.nx [some sc, some (.int seed'), some (.ref S0.length), x', y']) (S0 ++ [.lst (own'.map D.int)])
  | [], own, seed, x, y, hi, hl, h0, h1, ho => ⟨seed, own, x, y, h0, h1, by simpa using hl, ho, for_end trivial⟩
  | d :: items, own, seed, x, y, hi, hl, h0, h1, ho => by
    obtain ⟨k, z, rfl, k0, k1⟩ := hi d (by simp)
    simp only [List.length_cons] at hl
    obtain ⟨seed', own', s0, s1, sl, so, e⟩ := beg_step sc seed k z own S0 h0 h1 k0 k1 (by omega) ho
    obtain ⟨seed2, own2, x', y', r0, r1, rl, ro, e2⟩ := beg_loop sc a b S0 items own' seed' none none (fun d hd => hi d (by simp [hd])) (by omega) s0 s1 so
    exact ⟨seed2, own2, x', y', r0, r1, rl, ro, for_go trivial rfl e e2⟩
theorem begin_spec : SBegin (bodyF 5 (lSeq (lPar 1 2 (aCons (lBin gAdd (lCallB gLen (aCons (lVar 0) aNil)) (lC (D.int 7))) (aCons (lLstN aNil) aNil)))
        (lSeq
          (lFor (lEnum (aCons (lSlice gSlice (lVar 0) oNone (oSome (lC (D.int 63)))) aNil)) begG begStep)
          (lRet (lLstN (aCons (lVar 2) (aCons (lVar 1) (aCons (lC (D.int 0)) aNil)))))))) := by
  intro S ns hn
  have b30 : (1000 : Int) < 10 ^ 30 := by decide +kernel
  have hcut : (cutD (ns.map D.int) none (some 63)).length ≤ 63 := by
    unfold cutD
    rw [List.length_take, List.length_drop, List.length_map]
    omega
  obtain ⟨seed', own', x', y', r0, r1, rl, ro, e2⟩ := beg_loop (.lst (ns.map D.int)) (.int ((ns.map D.int).length + 7)) (.ref S.length) S (enumD (cutD (ns.map D.int) none (some 63))) [] ((ns.map D.int).length + 7) none none (fun d hd => by
      obtain ⟨i, hi, he⟩ := List.mem_iff_getElem.mp hd
      have h2 : (enumD (cutD (ns.map D.int) none (some 63)))[i]? = some d := by rw [List.getElem?_eq_getElem hi, he]
      obtain ⟨x, hx, rfl⟩ := enumD_get h2
      have hm : x ∈ ns.map D.int := List.mem_of_mem_drop (List.mem_of_mem_take (List.mem_of_getElem? hx))
      obtain ⟨z, _, rfl⟩ := List.mem_map.mp hm
      rw [enumD_length] at hi
      exact ⟨(i : Int), z, rfl, by omega, by omega⟩) (by rw [enumD_length]; simpa using hcut) (by omega) (by rw [List.length_map]; omega) (fun z hz => by simp at hz)
  refine ⟨_, _, body_rt (seq_nx (par_ok (acons_ok (bin_ok (callb_ok (acons_ok rfl rfl) rfl) rfl add_ii) (acons_ok (lstN_ok rfl (by simp)) rfl))) (seq_nx (for_ok (enum_ok rfl) e2) (ret_ok (lstN_ok rfl (by simp))))), ?_⟩
  refine ⟨_, S.length, own', seed', 0, rfl, by simp, last_at, ?_, rl, ro, r0, r1, by omega, by omega⟩
  rw [List.getElem?_append_left (by simp)]
  exact last_at
/-! ### a draw -/
def tkT : LT := (MP.tAnd (tTru (lBin gNe (lBin gIx (lVar 0) (lC (D.int 0))) (lLst aNil)))
            (tTru (lBin gEq (lBin gIx (lBin gIx (lVar 0) (lC (D.int 0))) (lC (D.int 0))) (lC (D.int 0)))))
def tkB : LS := (lExpr (lBM "list" stPopAt (lBin gIx (lVar 0) (lC (D.int 0))) (aCons (lC (D.int 0)) aNil)))
theorem ix0 {n : Nat} : ixN (n + 1) 0 = some 0 := by unfold ixN; rw [if_pos (by decide), if_pos (by omega)]; rfl
theorem at0 {x : D} {xs : List D} : atI (x :: xs) 0 = some x := by unfold atI; rw [List.length_cons, ix0]; rfl
theorem own_at {S : Sto} {j i : Nat} {seed cnt : Int} {ρ : Ev} {wd x y : Option D} (hj : S[j]? = some (.lst [.ref i, .int seed, .int cnt])) : lBin gIx (lVar 0) (lC (.int 0)) [some (.ref j), wd, x, y] S = .ok (.ref i) S := bin_ok (x := .ref j) rfl rfl (ix_ref hj at0)
theorem tk_loop (j i : Nat) (hij : i ≠ j) (seed cnt : Int) (wd : D) : ∀ (own : List Int) (m : Nat) (S : Sto), S[j]? = some (.lst [.ref i, .int seed, .int cnt]) → S[i]? = some (.lst (own.map D.int)) →
    ∃ (own' : List Int) (S' : Sto), own'.length ≤ own.length ∧ (∀ z ∈ own', z ∈ own) ∧ S'[j]? = some (.lst [.ref i, .int seed, .int cnt]) ∧ S'[i]? = some (.lst (own'.map D.int)) ∧
      whileG [some (.ref j), some wd, none, none] tkT tkB (own.length + 1 + m) [some (.ref j), some wd, none, none] S = .ok (.nx [some (.ref j), some wd, none, none]) S'
  | [], m, S, hj, hi => by
    refine ⟨[], S, Nat.le_refl _, fun z h => h, hj, hi, ?_⟩
    have e : ([] : List Int).length + 1 + m = m + 1 := by simp; omega
    rw [e]
    exact while_end (and_ff (tru_b (bin_ok (own_at hj (ρ := [])) (lst_ok rfl (by simp)) (ne_nil hi)) rfl))
  | z :: own, m, S, hj, hi => by
    have e : (z :: own).length + 1 + m = (own.length + 1 + m) + 1 := by simp; omega
    rw [e]
    have h1 : tTru (lBin gNe (lBin gIx (lVar 0) (lC (D.int 0))) (lLst aNil)) [some (.ref j), some wd, none, none] S = .ok true S := tru_b (bin_ok (own_at hj (ρ := [])) (lst_ok rfl (by simp)) (ne_nil hi)) rfl
    have h2 : ∀ b, decide (z = 0) = b → tTru (lBin gEq (lBin gIx (lBin gIx (lVar 0) (lC (D.int 0))) (lC (D.int 0))) (lC (D.int 0))) [some (.ref j), some wd, none, none] S = .ok b S := fun b hb => tru_b (bin_ok (bin_ok (own_at hj (ρ := [])) rfl (ix_ref hi at0)) rfl eq_ii) hb
    by_cases hz : z = 0
    · have hp : tkB [some (.ref j), some wd, none, none] S = .ok (.nx [some (.ref j), some wd, none, none]) (S.set i (.lst (own.map D.int))) :=
        expr_ok (bm_ok (own_at hj (ρ := [])) (ty_lst hi) (acons_ok rfl rfl) (pop0_ok hi))
      have hil : i < S.length := (List.getElem?_eq_some_iff.mp hi).1
      obtain ⟨own', S', r1, r2, r3, r4, r5⟩ := tk_loop j i hij seed cnt wd own m (S.set i (.lst (own.map D.int))) (by rw [List.getElem?_set_ne hij]; exact hj) (by rw [List.getElem?_set_self hil])
      exact ⟨own', S', by simp; omega, fun y hy => List.mem_cons_of_mem _ (r2 y hy), r3, r4, while_go (and_tt h1 (h2 true (decide_eq_true hz))) hp r5⟩
    · exact ⟨z :: own, S, Nat.le_refl _, fun y h => h, hj, hi, while_end (and_tt h1 (h2 false (decide_eq_false hz)))⟩
theorem take_spec : STake (bodyF 4 (lSeq
        (lWhile (2 ^ 4000) tkT tkB)
        (lSeq
          (lIfS (tTru (lBin gNe (lBin gIx (lVar 0) (lC (D.int 0))) (lLst aNil)))
            (lSeq (lSet 2 (lBin gMod (lBin gIx (lBin gIx (lVar 0) (lC (D.int 0))) (lC (D.int 0))) (lVar 1)))
              (lSeq
                (lStS stSeq (lBin gIx (lVar 0) (lC (D.int 0))) (lC (D.int 0))
                  (lBin gDiv (lBin gIx (lBin gIx (lVar 0) (lC (D.int 0))) (lC (D.int 0))) (lVar 1)))
                (lRet (lVar 2))))
            lNext)
          (lSeq (lStS stSeq (lVar 0) (lC (D.int 2)) (lBin gAdd (lBin gIx (lVar 0) (lC (D.int 2))) (lC (D.int 1))))
            (lSeq
              (lSet 3
                (lBin gMod
                  (lBin gMulI
                    (lBin gAdd
                      (lBin gAdd (lBin gIx (lVar 0) (lC (D.int 1)))
                        (lBin gMulI (lBin gMulI (lC (D.int 65537)) (lBin gIx (lVar 0) (lC (D.int 2))))
                          (lBin gIx (lVar 0) (lC (D.int 2)))))
                      (lC (D.int 11)))
                    (lC (D.int 48271)))
                  (lC (D.int 2305843009213693921))))
              (lSeq
                (lSet 3
                  (lBin gMod
                    (lBin gMulI (lVar 3)
                      (lBin gAdd (lBin gMod (lVar 3) (lC (D.int 1000003)))
                        (lBin gMulI (lC (D.int 99991)) (lBin gIx (lVar 0) (lC (D.int 2))))))
                    (lC (D.int 2305843009213693907))))
                (lRet
                  (lBin gMod (lBin gAdd (lBin gDiv (lVar 3) (lC (D.int 97))) (lBin gDiv (lVar 3) (lC (D.int 1000033))))
                    (lVar 1))))))))) := by
  intro n S d wd hp hn w0 w1
  obtain ⟨j, i, own0, seed, cnt, rfl, hij, hj0, hi0, hl0, ho0, s0, s1, c0, c1⟩ := hp
  have hf : own0.length + 1 + (2 ^ 4000 - own0.length - 1) = 2 ^ 4000 := by
    have : 64 < 2 ^ 4000 := by decide +kernel
    omega
  obtain ⟨own, S1, hl, hm, hj, hi, hw⟩ := tk_loop j i hij seed cnt (.int wd) own0 (2 ^ 4000 - own0.length - 1) S hj0 hi0
  rw [hf] at hw
  have ho : ∀ z ∈ own, 0 ≤ z ∧ z < 10 ^ 120 := fun z h => ho0 z (hm z h)
  have smw : Sm wd := Sm.of (by omega) w1 (by decide +kernel)
  cases own with
  | cons z own =>
    obtain ⟨z0, z1⟩ := ho z (by simp)
    have hil : i < S1.length := (List.getElem?_eq_some_iff.mp hi).1
    have hx : ∀ y, lBin gIx (lBin gIx (lVar 0) (lC (D.int 0))) (lC (D.int 0)) [some (.ref j), some (.int wd), y, none] S1 = .ok (.int z) S1 := fun y => bin_ok (bin_ok (x := .ref j) rfl rfl (ix_ref hj at0)) rfl (ix_ref hi at0)
    refine ⟨z % wd, S1.set i (.lst ((D.int (z / wd)) :: own.map D.int)), body_rt (seq_nx hw (seq_rt (if_tt (tru_b (bin_ok (own_at hj (ρ := [])) (lst_ok rfl (by simp)) (ne_nil hi)) rfl) (seq_nx (set_ok (bin_ok (hx none) rfl (mod_ii w0))) (seq_nx (stS_ok (bin_ok (hx _) rfl (div_ii w0 smw)) (bin_ok (x := .ref j) rfl rfl (ix_ref hj at0)) rfl (sub_ok (n := 0) hi (by rw [List.length_map, List.length_cons, ix0]))) (ret_ok rfl)))))), Int.emod_nonneg _ (Int.ne_of_gt w0), Int.emod_lt_of_pos _ w0, ?_⟩
    refine ⟨j, i, (z / wd) :: own, seed, cnt, rfl, hij, by rw [List.getElem?_set_ne hij]; exact hj, by rw [List.getElem?_set_self hil]; rfl, by simp only [List.length_cons] at hl ⊢; omega, fun y hy => ?_, s0, s1, c0, by omega⟩
    rcases List.mem_cons.mp hy with rfl | hy
    · exact ⟨Int.ediv_nonneg z0 (by omega), Int.lt_of_le_of_lt (Int.ediv_le_self _ z0) z1⟩
    · exact ho y (by simp [hy])
  | nil =>
    have hjl : j < S1.length := (List.getElem?_eq_some_iff.mp hj).1
    have b1 : (10 : Int) ^ 30 * 10 ^ 30 = 10 ^ 60 := by decide +kernel
    have sml : ∀ c : Int, 0 ≤ c → c < 10 ^ 100 → Sm c := fun c a b => Sm.of a b (by decide +kernel)
    have e2 : S1.set j (.lst (([.ref i, .int seed, .int cnt] : List D).set 2 (.int (cnt + 1)))) = S1.set j (.lst [.ref i, .int seed, .int (cnt + 1)]) := rfl
    have hj2 : (S1.set j (.lst [.ref i, .int seed, .int (cnt + 1)]))[j]? = some (.lst [.ref i, .int seed, .int (cnt + 1)]) := List.getElem?_set_self hjl
    have hi2 : (S1.set j (.lst [.ref i, .int seed, .int (cnt + 1)]))[i]? = some (.lst (([] : List Int).map D.int)) := by rw [List.getElem?_set_ne (Ne.symm hij)]; exact hi
    have c2 : cnt + 1 ≤ 10 ^ 30 := by omega
    have bb : (0 : Int) < 10 ^ 30 ∧ (10 : Int) ^ 30 < 10 ^ 100 ∧ (65537 : Int) * 10 ^ 30 < 10 ^ 100 ∧ (99991 : Int) * 10 ^ 30 + 1000003 < 10 ^ 100 ∧ (65537 : Int) * 10 ^ 30 * 10 ^ 30 + 10 ^ 30 + 11 < 10 ^ 100 ∧ (2305843009213693921 : Int) < 10 ^ 100 := by decide +kernel
    obtain ⟨bb0, bb1, bb2, bb3, bb4, bb5⟩ := bb
    have scn : Sm (cnt + 1) := sml _ (by omega) (by omega)
    have k0 : (0 : Int) ≤ 65537 * (cnt + 1) := by omega
    have k1 : (65537 : Int) * (cnt + 1) ≤ 65537 * 10 ^ 30 := by omega
    have k2 : (65537 : Int) * (cnt + 1) * (cnt + 1) ≤ 65537 * 10 ^ 30 * 10 ^ 30 := Int.le_trans (Int.mul_le_mul_of_nonneg_right k1 (by omega)) (Int.mul_le_mul_of_nonneg_left c2 (by decide +kernel))
    have k3 : (0 : Int) ≤ 65537 * (cnt + 1) * (cnt + 1) := Int.mul_nonneg k0 (by omega)
    have cx : ∀ y z, lBin gIx (lVar 0) (lC (D.int 2)) [some (.ref j), some (.int wd), y, z] (S1.set j (.lst [.ref i, .int seed, .int (cnt + 1)])) = .ok (.int (cnt + 1)) (S1.set j (.lst [.ref i, .int seed, .int (cnt + 1)])) := fun y z => bin_ok (x := .ref j) rfl rfl (ix_ref hj2 rfl)
    have sx : ∀ y z, lBin gIx (lVar 0) (lC (D.int 1)) [some (.ref j), some (.int wd), y, z] (S1.set j (.lst [.ref i, .int seed, .int (cnt + 1)])) = .ok (.int seed) (S1.set j (.lst [.ref i, .int seed, .int (cnt + 1)])) := fun y z => bin_ok (x := .ref j) rfl rfl (ix_ref hj2 rfl)
    have g1 := set_ok (i := 3) (bin_ok (bin_ok (bin_ok (bin_ok (sx none none) (bin_ok (bin_ok (la := lC (.int 65537)) rfl (cx none none) (mul_ii (sml _ (by decide) (by decide +kernel)) scn)) (cx none none) (mul_ii (sml _ k0 (by omega)) scn)) add_ii) (lb := lC (.int 11)) rfl add_ii) (lb := lC (.int 48271)) rfl (mul_ii (sml _ (by omega) (by omega)) (sml _ (by decide) (by decide +kernel)))) (lb := lC (.int 2305843009213693921)) rfl (mod_ii (by decide)))
    have m0 := Int.emod_nonneg ((seed + 65537 * (cnt + 1) * (cnt + 1) + 11) * 48271) (b := 2305843009213693921) (by decide)
    have m1 := Int.emod_lt_of_pos ((seed + 65537 * (cnt + 1) * (cnt + 1) + 11) * 48271) (b := 2305843009213693921) (by decide)
    generalize (seed + 65537 * (cnt + 1) * (cnt + 1) + 11) * 48271 % 2305843009213693921 = mx at g1 m0 m1
    have t0 := Int.emod_nonneg mx (b := 1000003) (by decide)
    have t1 := Int.emod_lt_of_pos mx (b := 1000003) (by decide)
    have g2 := set_ok (i := 3) (bin_ok (bin_ok (ρ := [some (.ref j), some (.int wd), none, some (.int mx)]) (la := lVar 3) rfl (bin_ok (bin_ok (la := lVar 3) (lb := lC (.int 1000003)) rfl rfl (mod_ii (by decide))) (bin_ok (la := lC (.int 99991)) rfl (cx none _) (mul_ii (sml _ (by decide) (by decide +kernel)) scn)) add_ii) (mul_ii (sml _ m0 (by omega)) (sml _ (by omega) (by omega)))) (lb := lC (.int 2305843009213693907)) rfl (mod_ii (by decide)))
    generalize mx * (mx % 1000003 + 99991 * (cnt + 1)) % 2305843009213693907 = my at g2
    have g3 : lRet (lBin gMod (lBin gAdd (lBin gDiv (lVar 3) (lC (D.int 97))) (lBin gDiv (lVar 3) (lC (D.int 1000033)))) (lVar 1)) [some (.ref j), some (.int wd), none, some (.int my)] (S1.set j (.lst [.ref i, .int seed, .int (cnt + 1)])) = .ok (.rt (.int ((my / 97 + my / 1000033) % wd))) _ :=
      ret_ok (bin_ok (bin_ok (bin_ok rfl rfl (div_ii (by decide) (sml _ (by decide) (by decide +kernel)))) (bin_ok rfl rfl (div_ii (by decide) (sml _ (by decide) (by decide +kernel)))) add_ii) rfl (mod_ii w0))
    refine ⟨(my / 97 + my / 1000033) % wd, _, body_rt (seq_nx hw (seq_nx (if_ff (tru_b (bin_ok (own_at hj (ρ := [])) (lst_ok rfl (by simp)) (ne_nil hi)) rfl) rfl) (seq_nx (stS_ok (bin_ok (bin_ok (x := .ref j) rfl rfl (ix_ref hj rfl)) rfl add_ii) rfl rfl (sub_ok (n := 2) hj rfl)) (seq_nx g1 (seq_nx g2 g3))))), Int.emod_nonneg _ (Int.ne_of_gt w0), Int.emod_lt_of_pos _ w0, ?_⟩
    exact ⟨j, i, [], seed, cnt + 1, rfl, hij, hj2, hi2, by simp, fun z h => by simp at h, s0, s1, by omega, by omega⟩
end MP

namespace MP
open PySem PySem.Spec PyProof.Rows L2
theorem comp_ok {li : LI} {ix : List Nat} {g : GT} {tt : LT} {te : LE} {ρ : Ev} {S S1 S2 : Sto} {it : Its'} {ys : List D} (h : li ρ S = .ok it S1) (hl : it.items.length ≤ 1000) (h2 : compG it.chk g tt te (wipeE ρ ix) it.items S1 = .ok ys S2) : lComp li ix g tt te ρ S = .ok (.lst ys) S2 := by
  unfold lComp compL
  rw [h, bind_ok, if_pos (Nat.le_trans hl (by decide)), h2, bind_ok]
theorem comp_all {chk : Sto → Prop} {g : GT} {te : LE} {ρ0 : Ev} {f : D → D} {S : Sto} (hc : chk S) : ∀ items : List D, (∀ d ∈ items, ∃ ρ1, g d ρ0 = some ρ1 ∧ te ρ1 S = .ok (f d) S) → compG chk g tYesL te ρ0 items S = .ok (items.map f) S
  | [], _ => comp_end hc
  | d :: items, h => by
    obtain ⟨ρ1, h1, h2⟩ := h d (by simp)
    exact comp_go hc h1 h2 (comp_all hc items fun d hd => h d (by simp [hd]))
theorem for_const {chk : Sto → Prop} {g : GT} {lb : LS} {ρ0 : Ev} {S : Sto} (hc : chk S) : ∀ items : List D, (∀ d ∈ items, ∃ ρ1 ρ', g d ρ0 = some ρ1 ∧ lb ρ1 S = .ok (.nx ρ') S ∧ wk ρ0 ρ' = ρ0) → forG ρ0 chk g lb items ρ0 S = .ok (.nx ρ0) S
  | [], _ => for_end hc
  | d :: items, h => by
    obtain ⟨ρ1, ρ', h1, h2, h3⟩ := h d (by simp)
    refine for_go hc h1 h2 ?_
    rw [h3]
    exact for_const hc items fun d hd => h d (by simp [hd])
theorem for_inv {chk : Sto → Prop} {g : GT} {lb : LS} {ρ0 : Ev} {I : Nat → Sto → Prop} (hc : ∀ S, chk S) : ∀ (items : List D) (k : Nat) (S : Sto), I k S → (∀ d ∈ items, ∀ k S, I k S → ∃ ρ1 ρ' S', g d ρ0 = some ρ1 ∧ lb ρ1 S = .ok (.nx ρ') S' ∧ wk ρ0 ρ' = ρ0 ∧ I (k + 1) S') →
    ∃ S', forG ρ0 chk g lb items ρ0 S = .ok (.nx ρ0) S' ∧ I (k + items.length) S'
  | [], k, S, hI, _ => ⟨S, for_end (hc S), hI⟩
  | d :: items, k, S, hI, h => by
    obtain ⟨ρ1, ρ', S1, h1, h2, h3, h4⟩ := h d (by simp) k S hI
    obtain ⟨S2, h5, h6⟩ := for_inv hc items (k + 1) S1 h4 fun d hd => h d (by simp [hd])
    refine ⟨S2, ?_, by rw [List.length_cons, ← Nat.add_assoc, Nat.add_right_comm]; exact h6⟩
    refine for_go (hc S) h1 h2 ?_
    rw [h3]
    exact h5
theorem bls_true (xs : List D) : blsOf (xs.map fun _ => D.bl true) = some (xs.map fun _ => true) := by
  induction xs with
  | nil => rfl
  | cons x r ih => simp [blsOf, ih]
theorem all_true {S : Sto} (xs : List D) : gAll S [.lst (xs.map fun _ => D.bl true)] = some (.bl true) := by
  show (blsOf (xs.map fun _ => D.bl true)).map (fun bs => D.bl (bs.all id)) = _
  rw [bls_true]
  simp
theorem iter_ok {l : LE} {ρ : Ev} {S S1 : Sto} {d : D} {it : Its'} (h : l ρ S = .ok d S1) (h2 : iterOf S1 d = some it) : lIter l ρ S = .ok it S1 := by
  unfold lIter; rw [h, bind_ok, h2]; rfl
/-- a law: its pot, its turns, True -/
theorem shell {n : Nat} {l1 l3 : LS} {li : LI} {g : GT} {lb : LS} {ds : List D} {S S1 : Sto} {ρ1 : Ev} {it : Its'} {d : D} {I : Nat → Sto → Prop} (h1 : l1 (ds.map some ++ List.replicate (n - ds.length) none) S = .ok (.nx ρ1) S1) (h2 : li ρ1 S1 = .ok it S1) (hc : ∀ S, it.chk S) (h0 : I 0 S1)
    (ht : ∀ d ∈ it.items, ∀ k S, I k S → k < it.items.length → ∃ ρ2 ρ' S', g d ρ1 = some ρ2 ∧ lb ρ2 S = .ok (.nx ρ') S' ∧ wk ρ1 ρ' = ρ1 ∧ I (k + 1) S') (h3 : ∀ S, l3 ρ1 S = .ok (.rt d) S) :
    ∃ S', bodyF n (lSeq l1 (lSeq (lFor li g lb) l3)) ds S = .ok d S' := by
  have key : ∀ (items : List D) (k : Nat) (S : Sto), I k S → (∀ d ∈ items, d ∈ it.items) → k + items.length = it.items.length → ∃ S', forG ρ1 it.chk g lb items ρ1 S = .ok (.nx ρ1) S' := by
    intro items
    induction items with
    | nil => exact fun k S hI _ _ => ⟨S, for_end (hc S)⟩
    | cons d items ih =>
      intro k S hI hm hk
      simp only [List.length_cons] at hk
      obtain ⟨ρ2, ρ', S1, h1, h2, h3, h4⟩ := ht d (hm d (by simp)) k S hI (by omega)
      obtain ⟨S2, h5⟩ := ih (k + 1) S1 h4 (fun d hd => hm d (by simp [hd])) (by omega)
      exact ⟨S2, for_go (hc S) h1 h2 (by rw [h3]; exact h5)⟩
  obtain ⟨S2, e⟩ := key it.items 0 S1 h0 (fun _ h => h) (by omega)
  exact ⟨S2, body_rt (seq_nx h1 (seq_nx (for_ok h2 e) (h3 S2)))⟩
end MP

namespace MP
open PySem PySem.Spec PyProof.Rows L2

/-! ### dicts -/
def keyOf : D → Option Key
  | .int i => some (.inl i)
  | .str s => some (.inr s)
  | _ => none
def keysOf : List D → Option (List Key)
  | [] => some []
  | x :: r => (keyOf x).bind fun k => (keysOf r).map fun ks => k :: ks
/-- a key of a dict; t: its keys are tuples -/
def kOf (t : Bool) (d : D) : Option (List Key) := match t with
  | false => (keyOf d).map fun k => [k]
  | true => match d with
    | .tup xs => keysOf xs
    | _ => none
def kD (t : Bool) (ks : List Key) : D := match t with
  | false => match ks with
    | k :: _ => keyD k
    | [] => .non
  | true => .tup (ks.map keyD)
def lookD (t : Bool) : List (D × D) → List Key → Option D
  | [], _ => none
  | (x, d) :: r, ks => if kOf t x = some ks then some d else lookD t r ks
def putDD (t : Bool) (kvs : List (D × D)) (ks : List Key) (d : D) : List (D × D) := if (lookD t kvs ks).isSome = true then kvs.map (fun q => if kOf t q.1 = some ks then (q.1, d) else q) else kvs ++ [(kD t ks, d)]
theorem keyOf_keyD (k : Key) : keyOf (keyD k) = some k := by cases k <;> rfl
theorem keysOf_map : ∀ ks : List Key, keysOf (ks.map keyD) = some ks
  | [] => rfl
  | k :: ks => by simp [keysOf, keyOf_keyD, keysOf_map ks]
theorem keyOf_inv {d : D} {k : Key} (h : keyOf d = some k) : d = keyD k := by
  cases d <;> simp only [keyOf] at h <;> cases h <;> rfl
theorem keysOf_inv : ∀ {ds : List D} {ks : List Key}, keysOf ds = some ks → ds = ks.map keyD
  | [], ks, h => by simp only [keysOf] at h; cases h; rfl
  | x :: r, ks, h => by
    simp only [keysOf] at h
    cases q : keyOf x with
    | none => rw [q] at h; cases h
    | some k =>
      rw [q] at h
      cases q2 : keysOf r with
      | none => rw [q2] at h; cases h
      | some ks' =>
        rw [q2] at h
        cases h
        rw [keyOf_inv q, keysOf_inv q2]
        rfl
theorem kOf_kD {t : Bool} {d : D} {ks : List Key} (h : kOf t d = some ks) : d = kD t ks := by
  cases t with
  | false =>
    simp only [kOf] at h
    cases q : keyOf d with
    | none => rw [q] at h; cases h
    | some k => rw [q] at h; cases h; exact keyOf_inv q
  | true =>
    simp only [kOf] at h
    cases d with
    | tup xs => rw [show kD true ks = .tup (ks.map keyD) from rfl, ← keysOf_inv h]
    | _ => cases h
section
variable {K : PySem.W.Frag} {m : List Addr} {H : Hp}
theorem VR.key {v : V} {d : D} {k : Key} (r : VR K m H v d) (h : keyOf d = some k) : v = kV k := by
  have e := keyOf_inv h
  subst e
  cases k with
  | inl i => cases r; rfl
  | inr s => cases r; rfl
theorem VRs.keys : ∀ {vs : List V} {ks : List Key}, VRs K m H vs (ks.map keyD) → vs = ks.map kV
  | _, [], .nil => rfl
  | _, k :: ks, .cons h r => by rw [h.key (keyOf_keyD k), r.keys]; rfl
theorem kf1 {k k' : Key} : kOf false (keyD k') = some [k] ↔ k' = k := by
  show (keyOf (keyD k')).map (fun k => [k]) = some [k] ↔ _
  rw [keyOf_keyD]
  simp
theorem kf2 {k k' : List Key} : kOf true (.tup (k'.map keyD)) = some k ↔ k' = k := by
  show keysOf (k'.map keyD) = some k ↔ _
  rw [keysOf_map]
  simp
theorem VDk.look {vs : List (Key × V)} {ds : List (D × D)} (r : VDk K m H vs ds) (k : Key) : (∀ d, lookD false ds [k] = some d → ∃ v, valV vs k = some v ∧ VR K m H v d) ∧ (lookD false ds [k] = none → valV vs k = none) := by
  induction vs generalizing ds with
  | nil => cases r; exact ⟨fun d h => by simp [lookD] at h, fun _ => rfl⟩
  | cons p vs ih =>
    cases r with
    | @cons k' v d vs ds h r =>
      simp only [lookD]
      by_cases e : k' = k
      · rw [if_pos (kf1.mpr e), valV_pos (p := (k', v)) e]
        exact ⟨fun d' z => by cases z; exact ⟨v, rfl, h⟩, fun z => by cases z⟩
      · rw [if_neg (fun z => e (kf1.mp z)), valV_neg (p := (k', v)) e]
        exact ih r
theorem VDt.look {vs : List (List Key × V)} {ds : List (D × D)} (r : VDt K m H vs ds) (k : List Key) : (∀ d, lookD true ds k = some d → ∃ v, valV vs k = some v ∧ VR K m H v d) ∧ (lookD true ds k = none → valV vs k = none) := by
  induction vs generalizing ds with
  | nil => cases r; exact ⟨fun d h => by simp [lookD] at h, fun _ => rfl⟩
  | cons p vs ih =>
    cases r with
    | @cons k' v d vs ds h r =>
      simp only [lookD]
      by_cases e : k' = k
      · rw [if_pos (kf2.mpr e), valV_pos (p := (k', v)) e]
        exact ⟨fun d' z => by cases z; exact ⟨v, rfl, h⟩, fun z => by cases z⟩
      · rw [if_neg (fun z => e (kf2.mp z)), valV_neg (p := (k', v)) e]
        exact ih r
theorem VDk.some_iff {vs : List (Key × V)} {ds : List (D × D)} (r : VDk K m H vs ds) (k : Key) : (lookD false ds [k]).isSome = (valV vs k).isSome := by
  obtain ⟨h1, h2⟩ := r.look k
  cases q : lookD false ds [k] with
  | none => rw [h2 q]; rfl
  | some d => obtain ⟨v, e, _⟩ := h1 d q; rw [e]; rfl
theorem VDt.some_iff {vs : List (List Key × V)} {ds : List (D × D)} (r : VDt K m H vs ds) (k : List Key) : (lookD true ds k).isSome = (valV vs k).isSome := by
  obtain ⟨h1, h2⟩ := r.look k
  cases q : lookD true ds k with
  | none => rw [h2 q]; rfl
  | some d => obtain ⟨v, e, _⟩ := h1 d q; rw [e]; rfl
theorem VDk.mapP {v : V} {d : D} (k : Key) (h : VR K m H v d) : ∀ {vs : List (Key × V)} {ds : List (D × D)}, VDk K m H vs ds → VDk K m H (vs.map fun kv => if kv.1 = k then (kv.1, v) else kv) (ds.map fun q => if kOf false q.1 = some [k] then (q.1, d) else q)
  | _, _, .nil => .nil
  | _, _, @VDk.cons _ _ _ k' w e vs ds h' r => by
    simp only [List.map_cons]
    by_cases z : k' = k
    · rw [if_pos z, if_pos (kf1.mpr z)]; exact .cons h (r.mapP k h)
    · rw [if_neg z, if_neg (fun y => z (kf1.mp y))]; exact .cons h' (r.mapP k h)
theorem VDt.mapP {v : V} {d : D} (k : List Key) (h : VR K m H v d) : ∀ {vs : List (List Key × V)} {ds : List (D × D)}, VDt K m H vs ds → VDt K m H (vs.map fun kv => if kv.1 = k then (kv.1, v) else kv) (ds.map fun q => if kOf true q.1 = some k then (q.1, d) else q)
  | _, _, .nil => .nil
  | _, _, @VDt.cons _ _ _ k' w e vs ds h' r => by
    simp only [List.map_cons]
    by_cases z : k' = k
    · rw [if_pos z, if_pos (kf2.mpr z)]; exact .cons h (r.mapP k h)
    · rw [if_neg z, if_neg (fun y => z (kf2.mp y))]; exact .cons h' (r.mapP k h)
theorem VDk.snoc {v : V} {d : D} (k : Key) (h : VR K m H v d) : ∀ {vs : List (Key × V)} {ds : List (D × D)}, VDk K m H vs ds → VDk K m H (vs ++ [(k, v)]) (ds ++ [(keyD k, d)])
  | _, _, .nil => .cons h .nil
  | _, _, .cons h' r => .cons h' (r.snoc k h)
theorem VDt.snoc {v : V} {d : D} (k : List Key) (h : VR K m H v d) : ∀ {vs : List (List Key × V)} {ds : List (D × D)}, VDt K m H vs ds → VDt K m H (vs ++ [(k, v)]) (ds ++ [(.tup (k.map keyD), d)])
  | _, _, .nil => .cons h .nil
  | _, _, .cons h' r => .cons h' (r.snoc k h)
theorem VDk.put {v : V} {d : D} (k : Key) (h : VR K m H v d) {vs : List (Key × V)} {ds : List (D × D)} (r : VDk K m H vs ds) : VDk K m H (putK vs k v) (putDD false ds [k] d) := by
  unfold putK putDD
  rw [r.some_iff k, valV_any]
  by_cases z : (valV vs k).isSome = true
  · rw [if_pos z, if_pos z]; exact r.mapP k h
  · rw [if_neg z, if_neg z]; exact r.snoc k h
theorem VDt.put {v : V} {d : D} (k : List Key) (h : VR K m H v d) {vs : List (List Key × V)} {ds : List (D × D)} (r : VDt K m H vs ds) : VDt K m H (putK vs k v) (putDD true ds k d) := by
  unfold putK putDD
  rw [r.some_iff k, valV_any]
  by_cases z : (valV vs k).isSome = true
  · rw [if_pos z, if_pos z]; exact r.mapP k h
  · rw [if_neg z, if_neg z]; exact r.snoc k h
theorem VDk.length {vs : List (Key × V)} {ds : List (D × D)} : VDk K m H vs ds → vs.length = ds.length
  | .nil => rfl
  | .cons _ r => by simp [r.length]
theorem VDt.length {vs : List (List Key × V)} {ds : List (D × D)} : VDt K m H vs ds → vs.length = ds.length
  | .nil => rfl
  | .cons _ r => by simp [r.length]
variable {S : Sto}
/-- a dict, of the store or not -/
theorem vw_dct (x : SR K m H S) {v : V} {d : D} {t : Bool} {kvs : List (D × D)} (r : VR K m H v d) (e : vw S d = .dct t kvs) : ∃ a, v = .ref a ∧ ((t = false ∧ ∃ vs, H a = some (.dK vs) ∧ VDk K m H vs kvs) ∨ (t = true ∧ ∃ vs, H a = some (.dT vs) ∧ VDt K m H vs kvs)) := by
  cases r with
  | @ref i a h =>
    dsimp only [vw] at e
    cases q : S[i]? with
    | none => rw [q] at e; cases e
    | some ob =>
      rw [q] at e
      cases x.at_ i a ob h q with
      | lst _ _ => cases e
      | ins _ _ => cases e
      | dct h r => cases e; exact ⟨a, rfl, .inl ⟨rfl, _, h, r⟩⟩
      | dctT h r => cases e; exact ⟨a, rfl, .inr ⟨rfl, _, h, r⟩⟩
  | dct n h r => cases e; exact ⟨_, rfl, .inl ⟨rfl, _, h, r⟩⟩
  | dctT n h r => cases e; exact ⟨_, rfl, .inr ⟨rfl, _, h, r⟩⟩
  | _ => cases e
theorem dget_of (x : SR K m H S) {v y : V} {d dy : D} {t : Bool} {kvs : List (D × D)} {ks : List Key} (r : VR K m H v d) (e : vw S d = .dct t kvs) (ry : VR K m H y dy) (hk : kOf t dy = some ks) :
    ∃ a o, v = .ref a ∧ DGet H a y o ∧ (∀ d', lookD t kvs ks = some d' → ∃ v', o = some v' ∧ VR K m H v' d') ∧ (lookD t kvs ks = none → o = none) := by
  obtain ⟨a, rfl, h⟩ := vw_dct x r e
  rcases h with ⟨rfl, vs, h, rr⟩ | ⟨rfl, vs, h, rr⟩
  · simp only [kOf] at hk
    cases q : keyOf dy with
    | none => rw [q] at hk; cases hk
    | some k =>
      rw [q] at hk
      cases hk
      obtain rfl := ry.key q
      obtain ⟨h1, h2⟩ := rr.look k
      exact ⟨a, _, rfl, .k h, h1, h2⟩
  · simp only [kOf] at hk
    cases ry with
    | @tup b ws ds hb rs =>
      dsimp only at hk
      have e2 := keysOf_inv hk
      subst e2
      obtain rfl := rs.keys
      obtain ⟨h1, h2⟩ := rr.look ks
      exact ⟨a, _, rfl, .t h hb, h1, h2⟩
    | _ => cases hk
end
section
variable {X : Cx}
def gDix : G2 := fun S x y => match vw S x with
  | .dct t kvs => (kOf t y).bind fun ks => lookD t kvs ks
  | _ => none
theorem ixl_dct (hu : X.A.units + 64 < cLine) : IxL X gDix := ⟨fun value slice pins s σ H m S x y dx dy d v u I q rx ry ex ey e hs => by
  unfold gDix at e
  split at e
  · rename_i t kvs qv
    cases hk : kOf t dy with
    | none => rw [hk] at e; cases e
    | some ks =>
      rw [hk] at e
      obtain ⟨a, o, rfl, g, h1, h2⟩ := dget_of q rx qv ry hk
      obtain ⟨v', rfl, w⟩ := h1 d e
      obtain rfl : v = Value.ref a := ex
      exact tail_any (dict_typeIs I g) PySem.F.slot_dict_getitem.lookup (d_getItem (by omega) I g ey fun w' s' I' rw' => ⟨v', H, m, I', rw', Ext.refl, q, w⟩) (hs _ _)
  · cases e⟩
def gDin : G2 := fun S y x => match vw S x with
  | .dct t kvs => (kOf t y).map fun ks => .bl (lookD t kvs ks).isSome
  | _ => none
def gDnotin : G2 := fun S y x => match vw S x with
  | .dct t kvs => (kOf t y).map fun ks => .bl (!(lookD t kvs ks).isSome)
  | _ => none
theorem opl_din (hu : X.A.units + 64 < cLine) : OpL X (compareOp .In) gDin := ⟨fun pins s σ H m S y x dy dx d u v I q ry rx ey ex e => by
  unfold gDin at e
  split at e
  · rename_i t kvs qv
    cases hk : kOf t dy with
    | none => rw [hk] at e; cases e
    | some ks =>
      rw [hk] at e
      cases e
      obtain ⟨a, o, rfl, g, h1, h2⟩ := dget_of q rx qv ry hk
      obtain rfl : v = Value.ref a := ex
      have e2 : o.isSome = (lookD t kvs ks).isSome := by
        cases z : lookD t kvs ks with
        | none => rw [h2 z]; rfl
        | some d' => obtain ⟨v', rfl, _⟩ := h1 d' z; rfl
      exact d_in (by omega) I g ey fun s' I' => ⟨.bl o.isSome, H, m, I', rfl, Ext.refl, q, by rw [e2]; exact .bl _⟩
  · cases e⟩
theorem opl_dnotin (hu : X.A.units + 64 < cLine) : OpL X (compareOp .NotIn) gDnotin := ⟨fun pins s σ H m S y x dy dx d u v I q ry rx ey ex e => by
  unfold gDnotin at e
  split at e
  · rename_i t kvs qv
    cases hk : kOf t dy with
    | none => rw [hk] at e; cases e
    | some ks =>
      rw [hk] at e
      cases e
      obtain ⟨a, o, rfl, g, h1, h2⟩ := dget_of q rx qv ry hk
      obtain rfl : v = Value.ref a := ex
      have e2 : o.isSome = (lookD t kvs ks).isSome := by
        cases z : lookD t kvs ks with
        | none => rw [h2 z]; rfl
        | some d' => obtain ⟨v', rfl, _⟩ := h1 d' z; rfl
      exact d_notIn (by omega) I g ey fun s' I' => ⟨.bl (!o.isSome), H, m, I', rfl, Ext.refl, q, by rw [e2]; exact .bl _⟩
  · cases e⟩
def stDct (S : Sto) (r i d : D) : Option Sto := match r with
  | .ref j => match S[j]? with
    | some (.dct t kvs) => if kvs.length < sizeLine then (kOf t i).map fun ks => S.set j (.dct t (putDD t kvs ks d)) else none
    | _ => none
  | _ => none
theorem psetl_dct (hu : X.A.units + 64 < cLine) : PSetL X stDct := ⟨fun pins s σ H m S S' o i v d1 d2 d3 ov iv u I x r1 r2 r3 e1 e2 e3 q => by
  unfold stDct at q
  split at q
  · rename_i j
    split at q
    · rename_i t kvs q1
      split at q
      · rename_i hz
        cases hk : kOf t d2 with
        | none => rw [hk] at q; cases q
        | some ks =>
          rw [hk] at q
          cases q
          obtain ⟨a, rfl, ha, orr⟩ := VR.ref_at x r1 q1
          obtain rfl : ov = Value.ref a := e1
          cases orr with
          | @dct vs _ hh rr =>
            simp only [kOf] at hk
            cases qk : keyOf d2 with
            | none => rw [qk] at hk; cases hk
            | some k =>
              rw [qk] at hk
              cases hk
              obtain rfl := r2.key qk
              obtain ⟨z1, z2⟩ := x.write (o' := .dK (putK vs k v)) (ob' := .dct false (putDD false kvs [k] d3)) ha fun e => .dct upd_same ((rr.put k r3).ext e x.muts)
              exact d_setItem (by omega) I (.k hh (by rw [rr.length]; exact hz)) e2 e3 fun s' I' => ⟨_, m, I', z1, z2⟩
          | @dctT vs _ hh rr =>
            simp only [kOf] at hk
            cases r2 with
            | @tup b ws ds hb rs =>
              dsimp only at hk
              have e2' := keysOf_inv hk
              subst e2'
              obtain rfl := rs.keys
              obtain ⟨z1, z2⟩ := x.write (o' := .dT (putK vs ks v)) (ob' := .dct true (putDD true kvs ks d3)) ha fun e => .dctT upd_same ((rr.put ks r3).ext e x.muts)
              exact d_setItem (by omega) I (.t hh hb (by rw [rr.length]; exact hz)) e2 e3 fun s' I' => ⟨_, m, I', z1, z2⟩
            | _ => cases hk
      · cases q
    · cases q
  · cases q⟩
/-- {} -/
def lDctN (t : Bool) : LE := fun _ S => .ok (.ref S.length) (S ++ [.dct t []])
def lDct (t : Bool) : LE := fun _ S => .ok (.dct t []) S
theorem pel_dctNK {pos : Pos} : PEL X (.Dict [] [] pos) (lDctN false) := .of_pe pe_dnewK fun σ H m ρ S x er hp p hn => by
  obtain ⟨e, x'⟩ := x.snoc (o := .dK []) (ob := .dct false []) hn fun m' H' _ q => .dct q .nil
  exact ⟨_, _, rfl, _, e, x', .ref (by rw [← x.len]; simp)⟩
theorem pel_dctNT {pos : Pos} : PEL X (.Dict [] [] pos) (lDctN true) := .of_pe pe_dnewT fun σ H m ρ S x er hp p hn => by
  obtain ⟨e, x'⟩ := x.snoc (o := .dT []) (ob := .dct true []) hn fun m' H' _ q => .dctT q .nil
  exact ⟨_, _, rfl, _, e, x', .ref (by rw [← x.len]; simp)⟩
theorem pel_dctK {pos : Pos} : PEL X (.Dict [] [] pos) (lDct false) := .of_pe pe_dnewK fun σ H m ρ S x er hp p hn => ⟨_, _, rfl, qv_new x hn (.dct (x.nin hn) upd_same .nil)⟩
theorem pel_dctT {pos : Pos} : PEL X (.Dict [] [] pos) (lDct true) := .of_pe pe_dnewT fun σ H m ρ S x er hp p hn => ⟨_, _, rfl, qv_new x hn (.dctT (x.nin hn) upd_same .nil)⟩
end
end MP

namespace MP
open PySem PySem.Spec PyProof.Rows L2

/-! ### sorted -/
def encD (d : D) : PyData := (toPD d).getD .none
def leD (a b : D) : Bool := PySem.W.dataLe false encD a b
def headT : PyData → Bool
  | .tuple (_ :: _) => true
  | _ => false
def plainT : PyData → Bool
  | .none => false
  | .tuple _ => false
  | _ => true
def srtOk (xs : List D) : Bool := xs.all (fun x => (toPD x).isSome) && (xs.all fun x => xs.all fun y => PySem.W.alike (encD x) (encD y)) && (xs.all (fun x => headT (encD x)) || xs.all fun x => plainT (encD x)) && xs.all (fun x => decide ((encD x).depth ≤ 50)) && decide (xs.length ≤ sizeLine)
theorem srtOk_inv {xs : List D} (h : srtOk xs = true) : (∀ x ∈ xs, toPD x = some (encD x)) ∧ PySem.W.AllAlike (xs.map encD) ∧ PySem.W.Sortable (xs.map encD) ∧ (∀ x ∈ xs, (encD x).depth ≤ 50) ∧ xs.length ≤ sizeLine := by
  unfold srtOk at h
  simp only [Bool.and_eq_true, List.all_eq_true, decide_eq_true_eq, Bool.or_eq_true] at h
  obtain ⟨⟨⟨⟨h1, h2⟩, h3⟩, h4⟩, h5⟩ := h
  refine ⟨fun x hx => ?_, fun d hd d' hd' => ?_, ?_, h4, h5⟩
  · unfold encD
    cases q : toPD x with
    | none => have := h1 x hx; rw [q] at this; cases this
    | some p => rfl
  · obtain ⟨x, hx, rfl⟩ := List.mem_map.mp hd
    obtain ⟨y, hy, rfl⟩ := List.mem_map.mp hd'
    exact h2 x hx y hy
  · rcases h3 with h3 | h3
    · refine .inl fun d hd => ?_
      obtain ⟨x, hx, rfl⟩ := List.mem_map.mp hd
      have := h3 x hx
      unfold headT at this
      split at this
      · exact ⟨_, _, ‹_›⟩
      · cases this
    · refine .inr fun d hd => ?_
      obtain ⟨x, hx, rfl⟩ := List.mem_map.mp hd
      have := h3 x hx
      refine ⟨fun z => ?_, fun ys z => ?_⟩
      · rw [z] at this; cases this
      · rw [z] at this; cases this
def IsV (K : PySem.W.Frag) (m : List Addr) (H : Hp) (v : Value) (d : D) : Prop := ∃ x, RelV x v ∧ VR K m H x d
theorem each_isV {K : PySem.W.Frag} {m : List Addr} {H : Hp} : ∀ {vs : List V} {us : List Value} {ds : List D}, Vals vs us → VRs K m H vs ds → PySem.W.EachIs (IsV K m H) us ds
  | _, _, _, .nil, .nil => .nil
  | _, _, _, .cons r t, .cons w z => .cons ⟨_, r, w⟩ (each_isV t z)
theorem of_each {K : PySem.W.Frag} {m : List Addr} {H : Hp} : ∀ {us : List Value} {ds : List D}, PySem.W.EachIs (IsV K m H) us ds → ∃ vs, Vals vs us ∧ VRs K m H vs ds
  | _, _, .nil => ⟨[], .nil, .nil⟩
  | _, _, .cons ⟨x, r, w⟩ t => by
    obtain ⟨vs, h1, h2⟩ := of_each t
    exact ⟨x :: vs, .cons r h1, .cons w h2⟩
section
variable {X : Cx} {pins : List (Addr × Obj)} {σ : L2.St} {H : Hp} {s : Shared} {m : List Addr} {S : Sto}
theorem each_reads (I : Inv X pins σ H s) {vs : List V} {us : List Value} {ds : List D} (r : Vals vs us) (w : VRs X.K m H vs ds) (h : ∀ x ∈ ds, toPD x = some (encD x)) : PySem.W.EachIs (fun v b => ∃ as, Reads s.heap v (encD b) as) us ds := by
  induction r generalizing ds with
  | nil => cases w; exact .nil
  | cons r t ih =>
    cases w with
    | cons w z => exact .cons (Dp.reads I _ _ _ (w.dp (h _ (by simp))) r) (ih z fun x hx => h x (by simp [hx]))
def gSorted : GC := fun S ds => match ds with
  | [d] => match vw S d with
    | .lst xs => if srtOk xs = true then some (.lst (xs.mergeSort leD)) else none
    | _ => none
  | _ => none
theorem cl_sorted (hu : X.A.units + 64 < cLine) : CallL X (.builtin "sorted") gSorted := ⟨fun pins s σ H m S xs ds d us I q r rv e => by
  unfold gSorted at e
  split at e
  · split at e
    · rename_i l qv
      split at e
      · rename_i hk
        cases e
        obtain ⟨h1, h2, h3, h4, h5⟩ := srtOk_inv hk
        obtain ⟨v, rfl, w⟩ := r.one
        obtain ⟨a, vs, rfl, hs, rr⟩ := vw_lst q w qv
        obtain ⟨its, rv2, hl, hz⟩ := I.list hs
        rw [Vals.ref1 rv]
        refine PySem.W.sorted_data (R := IsV X.K m H) hl.isList (each_isV rv2 rr) (each_reads I rv2 rr h1) h2 h3 h5 (fun b hb => by have := h4 b hb; omega) fun out ho hE => ?_
        obtain ⟨ws, k1, k2⟩ := of_each hE
        obtain ⟨ep, he'⟩ := PyProof.Rows.sortedAll_at s.heap its (List.toArray out)
        have hn : H (s.heap.objs.size + 1) = none := I.hok.fresh (Nat.le_succ _)
        refine ⟨.ref (s.heap.objs.size + 1), upd H (s.heap.objs.size + 1) (.lst ws), m, I.laid (t' := s.toks) (fun _ _ => PyProof.Rows.sortedAll_old) (Nat.le_succ _) ⟨by rw [k1.length, ho]; exact h5, out, ep, k1, he'⟩, rfl, Ext.fresh hn, q.fresh hn, ?_⟩
        exact vr_newLst q hn k2
      · cases e
    · cases e
  · cases e⟩
end
end MP

namespace MP
open PySem PySem.Spec PyProof.Rows L2

/-! ### the keys of a dict -/
section
variable {X : Cx} {pins : List (Addr × Obj)} {σ : L2.St} {H : Hp} {s : Shared} {m : List Addr} {S : Sto}
theorem VDk.keysR {K : PySem.W.Frag} {m : List Addr} {H : Hp} : ∀ {vs : List (Key × V)} {ds : List (D × D)}, VDk K m H vs ds → VRs K m H (vs.map fun p => kV p.1) (ds.map (·.1))
  | _, _, .nil => .nil
  | _, _, @VDk.cons _ _ _ k v d vs ds h r => by
    refine .cons ?_ r.keysR
    cases k with
    | inl i => exact .int i
    | inr s => exact .str s
theorem VRs.kVs {K : PySem.W.Frag} {m : List Addr} {H : Hp} : ∀ ks : List Key, VRs K m H (ks.map kV) (ks.map keyD)
  | [] => .nil
  | .inl i :: ks => .cons (.int i) (VRs.kVs ks)
  | .inr s :: ks => .cons (.str s) (VRs.kVs ks)
theorem VDt.keysR {K : PySem.W.Frag} {m : List Addr} {H : Hp} : ∀ {vs : List (List Key × V)} {ds : List (D × D)} {bs : List Addr}, VDt K m H vs ds → IsKeys H vs bs → VRs K m H (bs.map V.ref) (ds.map (·.1))
  | _, _, _, .nil, .nil => .nil
  | _, _, _, @VDt.cons _ _ _ k v d vs ds h r, .cons hb t => .cons (.tup hb (VRs.kVs k)) (r.keysR t)
theorem dict_src (I : Inv X pins σ H s) (x : SR X.K m H S) {v : V} {d : D} {t : Bool} {kvs : List (D × D)} (r : VR X.K m H v d) (e : vw S d = .dct t kvs) :
    ∃ (a : Addr) (P : Nat → Value → Prop) (OK : Heap → Prop), v = .ref a ∧ PySem.W.KdlSrc X.prog X.w "dict" a a kvs.length P OK ∧ OK s.heap ∧ kvs.length ≤ sizeLine ∧
      ∀ acc, ItemsOf P acc kvs.length → ∃ ks, Vals ks acc.toList ∧ VRs X.K m H ks (kvs.map (·.1)) := by
  obtain ⟨a, rfl, h⟩ := vw_dct x r e
  rcases h with ⟨rfl, vs, h, rr⟩ | ⟨rfl, vs, h, rr⟩
  · obtain ⟨z, lo, us, rk, hd⟩ := (show ObjOk X.prog X.w H s.heap a (.dK vs) from I.hok a _ h)
    obtain ⟨ep, hat⟩ := hd.dictAt
    have hl : vs.length = us.length := Paired.length rk
    have hl2 := rr.length
    have src := PySem.W.kdl_dict (knd := mixKind X.prog X.w) (kvs := us) (ep := ep) lo
    rw [← hl, hl2] at src
    refine ⟨a, _, _, rfl, src, hat, by rw [← hl2]; exact z, fun acc it => ⟨_, ?_, rr.keysR⟩⟩
    have e1 : (vs.map fun p => kV p.1) = us.map fun p => kV p.1 := by
      have := KV.keys rk
      have e2 : (vs.map fun p => kV p.1) = (vs.map (·.1)).map kV := by rw [List.map_map]; rfl
      have e3 : (us.map fun p => kV p.1) = (us.map (·.1)).map kV := by rw [List.map_map]; rfl
      rw [e2, e3, this]
    rw [e1]
    exact keys_at (by rw [Array.length_toList, it.1, ← hl2, hl]) fun j w hw => it.2 j w (by rw [← Array.getElem?_toList]; exact hw)
  · obtain ⟨z, hs, ks, pr, o, es, ep, ho, hx, hdt, he, hn⟩ := (show ObjOk X.prog X.w H s.heap a (.dT vs) from I.hok a _ h)
    have l1 : es.size = ks.length := size_of_entries he
    have l2 : vs.length = ks.length := Paired.length pr
    have l3 := rr.length
    have src := kdl_raw (prog := X.prog) (w := X.w) hs hx hdt
    rw [l1, ← l2, l3] at src
    refine ⟨a, _, _, rfl, src, ho, by rw [← l3]; exact z, fun acc it => ⟨_, ?_, rr.keysR (isKeys_of pr)⟩⟩
    have ea : acc.toList = ks.map fun x => Value.ref x.2.1 := by
      have hl : acc.toList.length = ks.length := by rw [Array.length_toList, it.1, ← l3, l2]
      apply List.ext_getElem?
      intro j
      rw [List.getElem?_map]
      cases hj : acc.toList[j]? with
      | none =>
        have h1 := List.getElem?_eq_none_iff.mp hj
        rw [List.getElem?_eq_none (by omega)]
        all_goals rfl
      | some v =>
        obtain ⟨en, hen, hv⟩ := it.2 j v (by rw [← Array.getElem?_toList]; exact hj)
        have qe := entry_at he j
        rw [hen] at qe
        cases hb : ks[j]? with
        | none =>
          rw [hb] at qe
          exact nomatch (show some en = none from qe)
        | some b =>
          rw [hb] at qe
          have e2 : en = entryOfKey (tupleKind (mixKind X.prog X.w)) b := Option.some.inj qe
          rw [hv, e2]
          all_goals rfl
    have eb : acc.toList = (ks.map fun x => x.2.1).map Value.ref := by rw [ea, List.map_map]; all_goals rfl
    rw [eb]
    exact vals_refs _
/-- list(d) -/
def gListD : GC := fun S ds => match ds with
  | [d] => match vw S d with
    | .dct _ kvs => some (.lst (kvs.map (·.1)))
    | _ => none
  | _ => none
theorem cl_listD (hc : X.calm = true) : CallL X (.type "list") gListD := ⟨fun pins s σ H m S xs ds d us I q r rv e => by
  unfold gListD at e
  split at e
  · split at e
    · rename_i t kvs qv
      cases e
      obtain ⟨v, rfl, w⟩ := r.one
      obtain ⟨a, P, OK, rfl, src, ok, hz, hk⟩ := dict_src I q w qv
      rw [Vals.ref1 rv]
      refine PySem.W.kdl_call src (I.ok.hd hc) ok hz fun h' tk acc c kp e it => ?_
      obtain ⟨ks, k1, k2⟩ := hk acc it
      have hn : H s.heap.objs.size = none := I.hok.fresh (Nat.le_refl _)
      exact ⟨.ref s.heap.objs.size, _, m, I.laid (t' := tk) (o := .lst ks) kp (Nat.le_refl _) ⟨by rw [k2.length, List.length_map]; exact hz, acc.toList, c, k1, by rw [Array.toArray_toList]; exact e⟩, rfl, Ext.fresh hn, q.fresh hn, vr_newLst q hn k2⟩
    · cases e
  · cases e⟩
/-- sorted(d) -/
def gSortedD : GC := fun S ds => match ds with
  | [d] => match vw S d with
    | .dct _ kvs => if srtOk (kvs.map (·.1)) = true then some (.lst ((kvs.map (·.1)).mergeSort leD)) else none
    | _ => none
  | _ => none
theorem VRs.of_push {K : PySem.W.Frag} {m : List Addr} {H : Hp} {p : Addr} {vs : List V} {ds : List D} {xs : List V} (x : SR K m H S) (h : H p = none) (r : VRs K m H vs ds) : VRs K m (upd H p (.lst xs)) vs ds := r.fresh x h
theorem cl_sortedD (hc : X.calm = true) (hu : X.A.units + 64 < cLine) : CallL X (.builtin "sorted") gSortedD := ⟨fun pins s σ H m S xs ds d us I q r rv e => by
  unfold gSortedD at e
  split at e
  · split at e
    · rename_i t kvs qv
      split at e
      · rename_i hk0
        cases e
        obtain ⟨h1, h2, h3, h4, h5⟩ := srtOk_inv hk0
        obtain ⟨v, rfl, w⟩ := r.one
        obtain ⟨a, P, OK, rfl, src, ok, hz, hk⟩ := dict_src I q w qv
        rw [Vals.ref1 rv]
        refine PySem.Calls.call_function_entry PyProof.Rows.kind_sorted PyProof.Rows.plain_sorted PyProof.Rows.entry_sorted (PyProof.Rows.args_sorted1 _) ?_
        unfold Builtin.«sorted»
        refine wpAny_bind (m := checkCount "sorted" 1 1 _) (wpAny_pure ?_)
        refine wpAny_bind (PySem.W.kdu_collect (A := X.A.in1) src (I.ok.hd hc) ok hz fun h' tk acc hkp hacc => ?_)
        obtain ⟨ks, k1, k2⟩ := hk acc hacc
        have hal : acc.toList.length = kvs.length := by rw [Array.length_toList]; exact hacc.1
        refine wpAny_bind (wpAny_newList ?_ (by rw [hal]; exact hz))
        have hoL : (h'.push (seqObj "list" acc.toList.toArray 0)).get? h'.objs.size = some (seqObj "list" acc.toList.toArray 0) := Heap.get?_push_size _ rfl
        show wpAny _ _ _ _ _ { s with heap := h'.push (seqObj "list" acc.toList.toArray 0), toks := tk }
        have I1 : Inv X pins σ H { s with heap := h', toks := tk } := I.kept hkp
        have er := each_reads I1 k1 k2 h1
        obtain ⟨H1, hH1⟩ : ∃ z, z = h'.push (seqObj "list" acc.toList.toArray 0) := ⟨_, rfl⟩
        have er' : PySem.W.EachIs (fun v b => ∃ as, Reads (PySem.W.sortingHeap H1 h'.objs.size acc.toList) v (encD b) as) acc.toList (kvs.map (·.1)) := er.mono fun _ _ ⟨as, r⟩ => ⟨as, PyProof.Rows.Reads.keeps (fun b o z => PySem.W.sortingHeap_old (Nat.ne_of_lt (Heap.lt_size z)) (hH1 ▸ Heap.get?_push_of_some _ z)) r⟩
        have hR := each_isV (K := X.K) (m := m) (H := H) k1 k2
        rw [← hH1] at hoL ⊢
        refine wpAny_bind (wpAny_holding (wpAny_call_entry PyProof.Rows.slot_list_sort ⟨_, hoL, rfl⟩ PyProof.Rows.entry_list_sort (PySem.W.list_sort_vals (κ := PySem.W.dataKind (PySem.W.sortingHeap H1 h'.objs.size acc.toList) ((kvs.map (·.1)).map encD)) (s := { s with heap := H1, toks := tk }) hoL
          (PySem.W.SortsAt.data (s := { s with heap := PySem.W.sortingHeap H1 h'.objs.size acc.toList, toks := tk }) (PySem.W.each_map (R := fun v d => ∃ as, Reads (PySem.W.sortingHeap H1 h'.objs.size acc.toList) v d as) encD er') h2 h3 (PySem.W.bound_map fun b hb => by have := h4 b hb; show X.A.units + 1 + 1 + _ < cLine; omega)) (by rw [hal]; exact hz) ⟨.none, rfl, ?_⟩) (PyProof.Rows.args_list_sort _)))
        have hE := PySem.W.sortVals_data false hR er' h2
        have ho := PySem.W.sortVals_length (κ := PySem.W.dataKind (PySem.W.sortingHeap H1 h'.objs.size acc.toList) ((kvs.map (·.1)).map encD)) (vs := acc.toList) false rfl
        obtain ⟨ws, q1, q2⟩ := of_each hE
        obtain ⟨ep, he'⟩ := PyProof.Rows.sortedHeap_at (vs := acc.toList) (out := (PySem.W.sortVals (PySem.W.dataKind (PySem.W.sortingHeap H1 h'.objs.size acc.toList) ((kvs.map (·.1)).map encD)) false acc.toList acc.toList).toArray) hoL
        have hn : H h'.objs.size = none := I1.hok.fresh (Nat.le_refl _)
        refine wpAny_pure ⟨_, rfl, .ref h'.objs.size, upd H h'.objs.size (.lst ws), m, I1.laid (t' := tk) (fun b u e => ?_) (Nat.le_refl _) ⟨by rw [q1.length, ho, hal]; exact hz, _, ep, q1, he'⟩, rfl, Ext.fresh hn, q.fresh hn, vr_newLst q hn q2⟩
        have hb : b < h'.objs.size := Heap.lt_size e
        rw [PyProof.Rows.sortedHeap_old (Nat.ne_of_lt hb) (by rw [hH1, size_push']; exact Nat.lt_succ_of_lt hb), hH1]
        exact Heap.get?_push_of_some _ e
      · cases e
    · cases e
  · cases e⟩
end
end MP

namespace MP
open PySem PySem.Spec PyProof.Rows L2
open AutoSeq1 (wpAny_loadPart')
section
variable {prog : Program} {w : World} {A : Around} {E : Value → Shared → Prop} {s : Shared}
theorem new_tuple_src {A' : Around} {R : Result → Shared → Prop} {l : Addr} {T : String} {n : Nat} {P : Nat → Value → Prop} {OK : Heap → Prop} (K : PySem.W.KdlSrc prog w T l l n P OK) (hh : A.handled = none) (hok : OK s.heap) (hn : n ≤ sizeLine) (hne : T ≠ "tuple") (hT : s.TypeIs (.ref l) T)
    (h : ∀ (h' : Heap) (tk : Nat) (acc : Array Value), (∀ b o, s.heap.get? b = some o → h'.get? b = some o) → ItemsOf P acc n → R (.ok (.ret (.ref h'.objs.size))) { s with heap := h'.push { cls := .type "tuple", data := .seq acc }, toks := tk }) :
    wpAny (model prog w) A (Builtin.«tuple.__new__» ⟨[.type "tuple", .ref l], []⟩) (fun fin s' => match fin with
      | .done f => R (.ok f) s'
      | .again c' => c'.quiet = true ∧ codeAny (model prog w) A' c' R s') (fun e s' => R (.error e) s') s := by
  obtain ⟨hp, g, d, tk, os⟩ := s
  have hsub := sub_tuple_self
  have hinit := init_tuple_lookup
  have hmh := madeHere_tuple
  have hc : ∀ {Q : List Value → Shared → Prop} {E' : Value → Shared → Prop}, (∀ (h' : Heap) (tk' : Nat) (acc : Array Value), (∀ b o, hp.get? b = some o → h'.get? b = some o) → ItemsOf P acc n → Q acc.toList ⟨h', g, d, tk', os⟩) → wpAny (model prog w) A (collect (.ref l)) Q E' ⟨hp, g, d, tk, os⟩ := fun hq => PySem.W.kdu_collect K hh hok hn fun h' tk' acc hk hacc => hq h' tk' acc hk hacc
  wp_walk using wpAny_typeOf hT, hc
  intro h' tk' acc hk it
  refine wpAny_bind (wpAny_pure ?_)
  show wpAny _ _ (Builtin.Tuple.tupleExact acc.toList.toArray >>= fun v => ret v) _ _ _
  unfold Builtin.Tuple.tupleExact
  refine wpAny_bind (wpAny_newObj_type ?_ (by show acc.toList.toArray.size ≤ sizeLine; rw [Array.toArray_toList, it.1]; exact hn))
  refine wpAny_pure ?_
  rw [Array.toArray_toList]
  exact h h' tk' acc hk it
theorem call_tuple_src {l : Addr} {T : String} {n : Nat} {P : Nat → Value → Prop} {OK : Heap → Prop} {Q : Value → Shared → Prop} (K : PySem.W.KdlSrc prog w T l l n P OK) (hh : A.handled = none) (hok : OK s.heap) (hn : n ≤ sizeLine) (hne : T ≠ "tuple")
    (h : ∀ (h' : Heap) (tk : Nat) (acc : Array Value), (∀ b o, s.heap.get? b = some o → h'.get? b = some o) → ItemsOf P acc n → Q (.ref h'.objs.size) { s with heap := h'.push { cls := .type "tuple", data := .seq acc }, toks := tk }) :
    wpAny (model prog w) A (call (.type "tuple") [.ref l]) Q E s := by
  have hT : s.TypeIs (.ref l) T := K.type _ hok
  refine callType_codes (T := "tuple") (Bi := Builtin.«object.__init__») (Q₁ := fun r s₁ => s₁.TypeIs r "tuple" ∧ Q r s₁) PySem.F.called_tuple (PySem.F.typeCall_tuple_1 _) PySem.F.entry_object_init ?_ ?_
  · refine codeAny_of_tree ?_
    show wpAny _ A.in1.in1 (do checkBuiltinCall "tuple.__new__" ⟨[.type "tuple", .ref l], []⟩; again (.builtin "tuple.__new__" ⟨[.type "tuple", .ref l], []⟩)) _ _ s
    refine wpAny_bind (wpAny_of_eq (PySem.F.newCall_tuple_1 _) (wpAny_pure ⟨plainId_quiet (by decide +kernel) _, codeAny_builtin PySem.F.entry_tuple_new ?_⟩))
    rw [Around.under_plainId (by decide +kernel) _]
    exact new_tuple_src (A := A.in1.in1) (A' := A.in1) (R := wants (fun r s₁ => s₁.TypeIs r "tuple" ∧ Q r s₁) E) K hh hok hn hne hT fun h' tk acc hk it => ⟨⟨_, Heap.get?_push_size _ rfl, rfl⟩, h h' tk acc hk it⟩
  · rintro obj s₁ ⟨ht, hq⟩
    exact ⟨ht, PySem.F.args_object_init_2 _ _, object_init_meets PySem.F.called_tuple.init.lookup PySem.F.called_tuple.made (by decide) prog w A.in1 _ s₁ ⟨ht, rfl, hq⟩⟩
end
section
variable {X : Cx}
/-- tuple(d) -/
def gTupD : GC := fun S ds => match ds with
  | [d] => match vw S d with
    | .dct _ kvs => some (.tup (kvs.map (·.1)))
    | _ => none
  | _ => none
theorem cl_tupD (hc : X.calm = true) : CallL X (.type "tuple") gTupD := ⟨fun pins s σ H m S xs ds d us I q r rv e => by
  unfold gTupD at e
  split at e
  · split at e
    · rename_i t kvs qv
      cases e
      obtain ⟨v, rfl, w⟩ := r.one
      obtain ⟨a, P, OK, rfl, src, ok, hz, hk⟩ := dict_src I q w qv
      rw [Vals.ref1 rv]
      refine call_tuple_src src (I.ok.hd hc) ok hz (by decide) fun h' tk acc kp it => ?_
      obtain ⟨ks, k1, k2⟩ := hk acc it
      have I1 : Inv X pins σ H { s with heap := h', toks := tk } := I.kept kp
      have hn : H h'.objs.size = none := I1.hok.fresh (Nat.le_refl _)
      refine ⟨.ref h'.objs.size, _, m, I1.laid (t' := tk) (o := .tup ks) (fun b o e => Heap.get?_push_of_some _ e) (Nat.le_refl _) ⟨by rw [k2.length, List.length_map]; exact hz, acc.toList, k1, ?_⟩, rfl, Ext.fresh hn, q.fresh hn, vr_newTup q hn k2⟩
      have := IsTup.new h' acc
      rw [← Array.toArray_toList (xs := acc)] at this
      exact this
    · cases e
  · cases e⟩
end
end MP

/-! an own exception class over ValueError, made with keywords -/
namespace PySem.MPX
open PySem PySem.Spec PySem.HandSPX
section
variable {prog : Program} {w : World} {M : Model} {A : Around} {E : Value → Shared → Prop} {R : Result → Shared → Prop} {h : Heap} {g : Array GenState} {d : Drawn} {t : Nat} {os : OsState}
variable {nm q : Str} {C N : Addr} {bs bm bmB : List Value} {hdct : Bool} {sn : List Str} {sub : List Value} {ab : Bool} {col : Option Bool} {dd : Option Addr} {k0 k1 k2 k3 k5 : Option Value} {B newId initId : String}
theorem check_new_kw (F : ExcBaseFacts B newId initId bmB) (hT : ∀ X : String, bm.contains (.type X) = bmB.contains (.type X)) {rest : List Value} {kw : List (Str × Value)} {Q : Unit → Shared → Prop}
    (hC : h.get? C = some (excClassObj nm q C N bs bm hdct sn sub ab col dd k0 k1 k2 k3 k5 newId)) (hq : Q () ⟨h, g, d, t, os⟩) : wpAny M A (checkBuiltinCall newId ⟨.ref C :: rest, kw⟩) Q E ⟨h, g, d, t, os⟩ := by
  have hcont : (Value.ref C :: bm).contains (.type B) = true := by rw [List.contains_cons, hT, F.hasB, Bool.or_true]
  have hstar := F.noStar
  simp only [checkBuiltinCall, F.newKind, F.newSplit, F.newRow]
  repeat (first | refine wpAny_loadPart_at hC ?_ | (refine wpAny_isSubtype_exc hC ?_; rw [hcont]) | refine wpAny_staticBase_exc hC ?_ | refine wpAny_madeBy_exc hC ?_ | simp only [bne_self_eq_false, Bool.false_eq_true, if_false] | wp_step)
  exact hq
theorem new_kw (F : ExcBaseFacts B newId initId bmB) (hT : ∀ X : String, bm.contains (.type X) = bmB.contains (.type X)) {rest : List Value} {kw : List (Str × Value)}
    (hC : h.get? C = some (excClassObj nm q C N bs bm hdct sn sub ab col dd k0 k1 k2 k3 k5 newId))
    (hq : R (.ok (.ret (.ref (h.objs.size + 1)))) ⟨(h.push { cls := .type "tuple", data := .seq rest.toArray }).push
      { cls := .ref C, data := .fields #[.ref h.objs.size, .none, .none, .none, .bool false, .none] }, g, d, t, os⟩) (hrest : rest.length ≤ sizeLine) :
    codeAny (model prog w) A (.builtin newId ⟨.ref C :: rest, kw⟩) R ⟨h, g, d, t, os⟩ := by
  have hends := F.ends
  have hcB : (Value.ref C :: bm).contains (.type B) = true := by rw [List.contains_cons, hT, F.hasB, Bool.or_true]
  have hcA : (Value.ref C :: bm).contains (.type "AttributeError") = false := by rw [List.contains_cons, hT, F.noAttr]; rfl
  have hcN : (Value.ref C :: bm).contains (.type "NameError") = false := by rw [List.contains_cons, hT, F.noName]; rfl
  refine codeAny_builtinAt F.entry ?_
  unfold Builtin.«BaseException.__new__»
  refine wpAt_bind ?_
  show wpAt _ _ _ (stack >>= _) _ _ _
  refine wpAt_bind (wpAt_stack fun p below => wpAt_of_wpAny ?_)
  wp_walk
  refine wpAt_of_wpAny ?_
  rw [F.owner]
  repeat (first | with_reducible refine wpAny_madeHere_exc F.canon hC ?_ | with_reducible refine wpAny_loadPart_at hC ?_ | (with_reducible refine wpAny_isSubtype_exc hC ?_; first | rw [hcB] | rw [hcA] | rw [hcN]) | wp_step)
  show R _ _
  rw [Heap.size_push]
  exact hq
theorem type_call_kw (F : ExcBaseFacts B newId initId bmB) (hT : ∀ X : String, bm.contains (.type X) = bmB.contains (.type X)) {rest : List Value} {kw : List (Str × Value)} {fI : Addr} {Q : Fin → Shared → Prop}
    (hC : h.get? C = some (excClassObj nm q C N bs bm hdct sn sub ab col dd k0 k1 k2 k3 k5 newId))
    (hi : W.Looks (model prog w) h (typeLookup (.ref C) "__init__") (some (.ref fI))) (hb : ∀ self, W.Looks (model prog w) h (bindSpecial (.ref fI) self) (.ref fI, [self])) (hrest : rest.length ≤ sizeLine)
    (hq : codeAny (model prog w) A (.call (.ref fI) ⟨.ref (h.objs.size + 1) :: rest, kw⟩)
      (fun r s' => match r with | .ok (.ret v) => v = .none ∧ Q (.done (.ret (.ref (h.objs.size + 1)))) s' | .ok _ => False | .error e => E e s')
      ⟨(h.push (W.kdv_tup rest)).push (excO C h.objs.size), g, d, t, os⟩) :
    wpAny (model prog w) A (Builtin.«type.__call__» ⟨.ref C :: rest, kw⟩) Q E ⟨h, g, d, t, os⟩ := by
  repeat (first | with_reducible refine wpAny_loadPart_at hC ?_ | with_reducible refine wpAny_madeBy_exc hC ?_ | wp_step)
  refine codeAny_call_builtin_code (Code.quiet_builtin _ F.quiet) (check_new_kw F hT hC ?_)
  refine new_kw F hT hC ?_ hrest
  show wpAny _ _ _ _ _ _
  have k : ∀ b o, h.get? b = some o → ((h.push (W.kdv_tup rest)).push (excO C h.objs.size)).get? b = some o := fun b o e => Heap.get?_push_of_some _ (Heap.get?_push_of_some _ e)
  have hC₁ := k _ _ hC
  have hget : ((h.push (W.kdv_tup rest)).push (excO C h.objs.size)).get? (h.objs.size + 1) = some (excO C h.objs.size) := by heap_get
  have hcC : (Value.ref C :: bm).contains (.ref C) = true := by simp
  have i1 := hi.keeps k
  have b1 := (hb (.ref (h.objs.size + 1))).keeps k
  unfold isInstance
  repeat (first | with_reducible refine wpAny_loadPart_at hget ?_ | (with_reducible refine wpAny_isSubtype_exc hC₁ ?_; rw [hcC]) | wp_step)
  show wpAny _ _ (typeLookup (.ref C) _) _ _ _
  refine i1.at ?_
  refine wpAny_holding (wpAny_bind (b1.at ?_))
  refine wpAny_bind (wpAny_call (codeAny_mono hq fun r s' z => ?_))
  rcases r with e | (v | _ | _ | _) <;> first | exact z | exact z.elim | skip
  obtain ⟨rfl, z⟩ := z
  first
    | exact wpAny_pure (wpAny_pure z)
    | (wp_walk; exact z)
theorem call_kw (F : ExcBaseFacts B newId initId bmB) (hT : ∀ X : String, bm.contains (.type X) = bmB.contains (.type X)) {rest : List Value} {kw : List (Str × Value)} {fI : Addr}
    (hC : h.get? C = some (excClassObj nm q C N bs bm hdct sn sub ab col dd k0 k1 k2 k3 k5 newId))
    (hi : W.Looks (model prog w) h (typeLookup (.ref C) "__init__") (some (.ref fI))) (hb : ∀ self, W.Looks (model prog w) h (bindSpecial (.ref fI) self) (.ref fI, [self])) (hrest : rest.length ≤ sizeLine)
    (hq : codeAny (model prog w) (A.under (.builtin "type.__call__" ⟨.ref C :: rest, kw⟩)) (.call (.ref fI) ⟨.ref (h.objs.size + 1) :: rest, kw⟩) (W.InitBack (h.objs.size + 1) R)
      ⟨(h.push (W.kdv_tup rest)).push (excO C h.objs.size), g, d, t, os⟩) :
    codeAny (model prog w) A (.call (.ref C) ⟨rest, kw⟩) R ⟨h, g, d, t, os⟩ := by
  have f1 := tc_lookup
  have f2 := tc_bind (.ref C)
  have hTy : (⟨h, g, d, t, os⟩ : Shared).TypeIs (.ref C) "type" := ⟨_, hC, rfl⟩
  refine codeAny_of_tree ?_
  show wpAny _ _ (callAny (.ref C) _) _ _ _
  repeat (any_goals (first | assumption | with_reducible refine wpAny_loadPart_at hC ?_ | wp_step))
  refine ⟨rfl, ?_⟩
  refine codeAny_call_builtin_at (Code.quiet_builtin _ (by decide +kernel)) entry_typeCall (wpAny_check_type_call_sub hC (type_call_kw F hT hC hi hb hrest ?_))
  refine codeAny_mono hq fun r s' z => ?_
  rcases r with e | (v | _ | _ | _) <;> exact z
end
end PySem.MPX

namespace MP
open PySem PySem.Spec PyProof.Rows L2

/-- an own class that takes ValueError's __init__ over -/
structure LInit (K : PySem.W.Frag) (L : Addr) (mc : Value) : Prop where
  rd : PySem.W.readsIn K L mc = true
  ga : PySem.W.specialIn K (.ref L) "__getattribute__" = some (some (.builtin "type.__getattribute__"))
  at_ : PySem.W.findCls K (.ref L) mc "__init__" = some (.val (.builtin "ValueError.__init__"))
section
variable {X : Cx} {e : Expr} {es : List Expr} {ta : TA} {p1 p2 pos : Pos}
theorem pe_loinit {pl : Sem Bool} {x : Str} {L : Addr} {mc : Value} (T : LInit X.K L mc) (hg : Gl X x) (hm : X.mg x = some (.ref L)) (ha : PA X (e :: es) ta)
    (hdb : (x == ("__debug__" : Str)) = false := by decide)
    (hc : eval (.Call (.Attribute (.Name x p1) "__init__" p2) (e :: es) [] pos) X.env = (do
      let ov ← eval (.Name x p1) X.env
      standAt p2.atName
      let (f, first) ← holding [ov] (getMethod ov "__init__" pl)
      callWith pos f first (backTo pos (starEach (e :: es) X.env)) (backToKw pos (keywordEach [] X.env))) := by rfl)
    (he : starEach (e :: es) X.env = (false, eval e X.env) :: starEach es X.env := by rfl) (hpl : (backTo pos (starEach es X.env)).any (·.1) = false := by rfl) :
    PE X (.Call (.Attribute (.Name x p1) "__init__" p2) (e :: es) [] pos) (tVeI X.K ta) := by
  refine ⟨fun pins s σ H Q I h => ?_⟩
  refine PySem.W.methodCall_KW (ld_glob I hg hm ?_ hdb) hc
  refine PySem.W.method_cls I.kIn T.ga (PySem.W.cls_value I.kIn T.rd T.at_ (by decide +kernel) ?_)
  show wpAny _ _ (callWith pos (Value.builtin "ValueError.__init__") [] (backTo pos (starEach (e :: es) X.env)) []) _ _ _
  refine PyProof.Rows.callWith_method1 (thn (ha.run pos pins _ σ H _ (I.tok _) h) fun us s1 ⟨vs, H1, I1, r1, a, C, ws, ev, hl, T, ea, q⟩ => ?_) he hpl
  subst ev
  cases r1 with
  | @cons _ u0 _ ur ra rw' =>
    obtain rfl : u0 = Value.ref a := ra
    have hlen : ur.length ≤ sizeLine := by
      rw [← Paired.length rw', sizeLine_eq]
      omega
    exact oinit_ok T I1 ea hlen fun s' J => ⟨.non, H1, J, rfl, q⟩
end

/-- __init__ of one field, of two -/
def spE (K : PySem.W.Frag) (fs : List Str) : Sp := fun vs H Q _ => ∃ (e C : Addr) (ys : List V), vs = .ref e :: ys ∧ ys.length = fs.length ∧ OexC K C ∧ (∀ f ∈ fs, PySem.W.findIn K (.ref C) f = some none) ∧ H e = some (exo e C none) ∧
  ∀ dx, H dx = none → dx ≠ e → Q .non (upd (upd H dx (exd dx (fs.zip ys).reverse)) e (exo e C (some dx)))
end MP

/-! isinstance and fields of an exception that is a value (the two lemmas ahead: lines of HandS.ExcIs, turned to an exception with a dict) -/
namespace PySem.W
open PySem PySem.Spec PySem.Calls PyProof.Rows
section
variable {prog : Program} {w : World} {A : Around} {E : Value → Shared → Prop} {s : Shared} {K : Frag} {x D : Addr} {ox : Obj} {od : Option Obj}
theorem findObj_dataA {C : Addr} {name : Str} {a g : Value} (hc : (clsIn K C).isSome = true) (ha : findIn K (.ref C) name = some (some a)) (hg : specialIn K a "__get__" = some (some g)) (ht : takesIn K a = some true) : findObj K C od name = some (.bind g a) := by
  obtain ⟨cd, hc⟩ := Option.isSome_iff_exists.mp hc
  unfold findObj
  rw [hc, Option.bind_some, ha, Option.bind_some]
  simp [hg, ht]
theorem kin_classD {Q : Option Value → Shared → Prop} (hga : findIn K (.ref D) "__getattribute__" = some (some (.builtin "BaseException.__getattribute__"))) (hgt : findIn K (.ref D) "__getattr__" = some none) (hsub : subIn K (.ref D) (.type "BaseException") = some true)
    (hdct : hasDictIn K D = true) (ha : findIn K (.ref D) "__class__" = some (some (.builtin "object.__class__")))
    (hn : specialIn K (.builtin "object.__class__") "__get__" = some (some (.builtin "getset_descriptor.__get__"))) (htk : takesIn K (.builtin "object.__class__") = some true) (hm : mroIn K D (.type "object") = some true)
    (X : K.In s.heap) (I : InstAt s.heap x ox D od) (h : Q (some (.ref D)) { s with toks := s.toks + 1 }) : wpAny (model prog w) A (getAttr? (.ref x) "__class__") Q E s := by
  have hf : findObj K D od "__class__" = some (.bind (.builtin "getset_descriptor.__get__") (.builtin "object.__class__")) := findObj_dataA (by obtain ⟨cd, hc, _⟩ := any_some hdct; rw [hc]; rfl) ha hn htk
  obtain ⟨hp, g, d, t, os⟩ := s
  have L0 := I.type (M := model prog w)
  have L1 := looks_findIn (M := model prog w) X hga
  have L2 := looks_findIn (M := model prog w) X hgt
  have L3 := looks_find (M := model prog w) X I hf
  have sub : Looks (model prog w) hp (isInstance (.ref x) (.type "BaseException")) true := L0.andThen (looks_subIn X hsub)
  have hx0 : (false && onTheHeap (Value.builtin "BaseException.__getattribute__")) = false := rfl
  have hx2 : (Value.builtin "BaseException.__getattribute__" == Value.builtin "object.__getattribute__") = false := by decide +kernel
  have hx1 : (onTheHeap (Value.ref D) && Value.builtin "BaseException.__getattribute__" == Value.builtin "object.__getattribute__") = false := by rw [hx2]; rfl
  unfold getAttr? getAttrBy? getAttrBy
  refine wpAny_bind (wpAny_mkText (wpAny_bind (wpAny_attempt (wpAny_holding (wpAny_bind (L0.at (wpAny_bind (L1.at ?_))))))))
  show wpAny _ _ (if (onTheHeap (Value.ref D) && Value.builtin "BaseException.__getattribute__" == Value.builtin "object.__getattribute__") = true then _ else _) _ _ _
  rw [hx1, if_neg Bool.false_ne_true]
  unfold getAttrByItsOwn hookBefore
  refine wpAny_bind ?_
  rw [if_pos (show onTheHeap (Value.ref D) = true from rfl)]
  refine L2.at ?_
  refine wpAny_bind (wpAny_attempt (wpAny_holding ?_))
  unfold callGetattribute
  rw [hx0, if_neg Bool.false_ne_true]
  unfold boundAndCalled
  rw [PySem.F.excAttr_ValueError.ga.bind (.ref x)]
  refine wpAny_bind (wpAny_pure ?_)
  show wpAny _ _ (call (.builtin "BaseException.__getattribute__") [.ref x, .str "__class__" t]) _ _ _
  refine wpAny_call (codeAny_call_builtin PySem.F.excAttr_ValueError.ga.plain PySem.F.entry_bexc_ga ?_)
  refine @check_slot (model prog w) _ _ ⟨hp, g, d, t + 1, os⟩ "BaseException.__getattribute__" "BaseException" "__getattribute__" (.ref x) [.str "__class__" t] [] _ (by decide +kernel) (by decide +kernel) sub (PySem.F.args_bexc_ga (.ref x) (.str "__class__" t)) ?_
  unfold Builtin.«object.__getattribute__»
  refine wpAny_bind (wpAny_of_eq (a := ((Value.ref x : Value), [Value.str "__class__" t])) (by first | rfl | (simp only [slotArgs]; rfl)) ?_)
  refine wpAny_bind (wpAny_pure (wpAny_bind (L0.at (wpAny_bind (L3.at ?_)))))
  show wpAny _ _ (holding [Value.builtin "object.__class__"] (call (.builtin "getset_descriptor.__get__") [.builtin "object.__class__", .ref x, .ref D]) >>= ret) _ _ _
  refine wpAny_bind (wpAny_holding (wpAny_call (class_get (s := ⟨hp, g, d, t + 1, os⟩) (ox := ox) (od := od) X I hm ?_)))
  refine wpAny_pure ?_
  show wpAny _ _ (handedOut (.ref D)) _ _ _
  rw [handedOut_of (v := .ref D) rfl]
  first
    | exact wpAny_pure (wpAny_pure h)
    | exact wpAny_pure h
    | exact wpAny_pure (wpAny_bind (wpAny_pure (wpAny_pure h)))
theorem kitx_excD (hga : findIn K (.ref D) "__getattribute__" = some (some (.builtin "BaseException.__getattribute__"))) (hgt : findIn K (.ref D) "__getattr__" = some none) (hsub : subIn K (.ref D) (.type "BaseException") = some true) (hdct : hasDictIn K D = true) (ha : findIn K (.ref D) "__class__" = some (some (.builtin "object.__class__")))
    (hn : specialIn K (.builtin "object.__class__") "__get__" = some (some (.builtin "getset_descriptor.__get__"))) (htk : takesIn K (.builtin "object.__class__") = some true) (hm : mroIn K D (.type "object") = some true) :
    KitX K (.ref x) (.ref D) (fun h => InstAt h x ox D od) where
  ty := fun _ _ _ I => I.type
  it := fun _ _ X _ => by
    obtain ⟨cdD, hcD, _⟩ := any_some hdct
    unfold clsIn at hcD
    split at hcD
    · rename_i c' d' cd' sl' ho
      intro A' Q' E' s' k q
      unfold isType loadHead
      exact wpAny_bind (wpAny_loadPart (k _ _ (X _ _ ho)) (wpAny_pure q))
    · cases hcD
  ne := fun h tp dd its n sl X htp => by
    obtain ⟨cdD, hcD, _⟩ := any_some hdct
    refine Bool.eq_false_iff.mpr fun q => ?_
    have e : D = tp := Value.ref.inj (beq_iff_eq.mp q)
    subst e
    unfold clsIn at hcD
    split at hcD
    · rename_i c' d' cd' sl' ho
      have z := (X _ _ ho).symm.trans htp
      cases z
    · cases hcD
  ca := fun X I k => kin_classD hga hgt hsub hdct ha hn htk hm X I k
end
end PySem.W
namespace MP
open PySem PySem.Spec PyProof.Rows L2
section
variable {X : Cx} {pins : List (Addr × Obj)} {σ : L2.St} {H : Hp} {s : Shared} {m : List Addr} {S : Sto}
theorem exv_at {a C : Addr} {d : Option Addr} (I : Inv X pins σ H s) (h : H a = some (ExV C d a)) : ∃ (oe : Obj) (vs : Array Value), s.heap.get? a = some oe ∧ Zc (.ref C) d oe ∧ oe.data = .fields vs := by
  have x : ObjOk X.prog X.w H s.heap a (.ext fun h => ∃ (oe : Obj) (vs : Array Value), h.get? a = some oe ∧ Zc (.ref C) d oe ∧ oe.data = .fields vs) := I.hok a _ h
  exact x.1
theorem vw_exn {v : V} {d : D} {C : Addr} {gs : List (Str × D)} (r : VR X.K m H v d) (e : vw S d = .exn C gs) : VR X.K m H v (.exn C gs) := by
  cases r with
  | exn0 n h => cases e; exact .exn0 n h
  | exnD n nd h hd r => cases e; exact .exnD n nd h hd r
  | @ref i a h =>
    dsimp only [vw] at e
    cases q : S[i]? with
    | none => rw [q] at e; cases e
    | some ob => rw [q] at e; cases ob <;> cases e
  | _ => cases e
theorem exn_inst {v : V} {C : Addr} {gs : List (Str × D)} (I : Inv X pins σ H s) (r : VR X.K m H v (.exn C gs)) : ∃ a ox od, v = .ref a ∧ PySem.W.InstAt s.heap a ox C od ∧
    ∀ f d, gs.lookup f = some d → ∃ o w u, od = some o ∧ PySem.W.lookIn f o = some (some u) ∧ RelV w u ∧ VR X.K m H w d := by
  cases r with
  | @exn0 a C n h =>
    obtain ⟨oe, vs, h1, h2, h3⟩ := exv_at I h
    refine ⟨a, oe, none, rfl, ⟨h1, h2.1, by unfold PySem.W.notCls; rw [h3] <;> rfl, by rw [h2.2]; trivial⟩, fun f d q => by simp at q⟩
  | @exnD a C dd fs gs n nd h hd r =>
    obtain ⟨oe, vs, h1, h2, h3⟩ := exv_at I h
    obtain ⟨mA, hns, rel⟩ : ∃ mA, s.heap.Ns1 dd mA ∧ ∀ f, RelO (fs.lookup f) (mA f) := by
      rcases hd with hd | hd
      · exact exd_at I.hok hd
      · exact I.hok dd _ hd
    obtain ⟨o, ho, hl⟩ := lookIn_ns hns
    refine ⟨a, oe, some o, rfl, ⟨h1, h2.1, by unfold PySem.W.notCls; rw [h3] <;> rfl, by rw [h2.2]; exact ho⟩, fun f d q => ?_⟩
    obtain ⟨w, q1, q2⟩ := r.look q
    obtain ⟨u, hu, ru⟩ := RelO.some_of (v := w) (o := mA f) (by rw [← q1]; exact rel f)
    exact ⟨o, w, u, rfl, by rw [hl, hu], ru, q2⟩
variable {e : Expr} {pos : Pos} {l : LE} {Cs : List Addr} {f : Str}
/-- e.f, e an exception of one of the classes -/
def gFldE (Cs : List Addr) (f : Str) (S : Sto) (d : D) : Option D := match vw S d with
  | .exn C fs => if C ∈ Cs then fs.lookup f else none
  | _ => none
def lFldE (Cs : List Addr) (f : Str) (l : LE) : LE := fun ρ S => (l ρ S).bind fun d S1 => lift1 (gFldE Cs f S1 d) S1
theorem pel_fldE (hT : ∀ C ∈ Cs, XfC X.K C ∧ PySem.W.findIn X.K (.ref C) f = some none) (he : PEL X e l) (hb : attributeBase e f X.env (eval e X.env) = eval e X.env := by rfl) : PEL X (.Attribute e f pos) (lFldE Cs f l) := by
  refine ⟨fun pins s σ H m ρ S I x r hp => ?_⟩
  refine attr_of hb (run_seq he I x r hp fun d S1 q1 v u s1 H1 m1 I1 rv e1 x1 w1 r1 hp1 => ?_)
  obtain ⟨d', q2⟩ := lift_ok hp1
  have e0 : lFldE Cs f l ρ S = .ok d' S1 := by unfold lFldE; rw [q1, bind_ok, q2]; rfl
  rw [e0]
  unfold gFldE at q2
  split at q2
  · rename_i C gs q3
    split at q2
    · rename_i q4
      obtain ⟨T, hno⟩ := hT C q4
      obtain ⟨a, ox, od, rfl, J, k⟩ := exn_inst I1 (vw_exn w1 q3)
      obtain ⟨o, w, u', rfl, hl, ru, w2⟩ := k f d' q2
      obtain rfl : u = Value.ref a := rv
      exact HandSPX.exc_get I1.kIn J T.ga T.gg T.exC (PySem.W.findObj_own T.hdC hno rfl hl) (handed_of ru) ((vpr_of ⟨w, H1, m1, I1.tok _, ru, Ext.refl, x1, w2⟩).left e1)
    · cases q2
  · cases q2
/-- isinstance(e, c), e an exception -/
structure IsEOk (K : PySem.W.Frag) (c : Value) (tab : Addr → Option Bool) : Prop where
  one : ∀ C b, tab C = some b → PySem.W.kitOne K (.ref C) c = some b ∧ ExcC K C
def gIsE (tab : Addr → Option Bool) (S : Sto) (d : D) : Option D := match vw S d with
  | .exn C _ => (tab C).map .bl
  | _ => none
def lIsE (tab : Addr → Option Bool) (l : LE) : LE := fun ρ S => (l ρ S).bind fun d S1 => lift1 (gIsE tab S1 d) S1
theorem pel_isE {ce : Expr} {p : Pos} {cv : Value} {cw : V} {tab : Addr → Option Bool} (hg : Gl X "isinstance") (hm : X.mg "isinstance" = none) (he : PEL X e l) (hc : PE X ce (tC cw)) (hcv : ClsV cw cv) (ok : IsEOk X.K cv tab)
    (hs : starEach [e, ce] X.env = (false, eval e X.env) :: starEach [ce] X.env := by rfl) (hs2 : starEach [ce] X.env = (false, eval ce X.env) :: starEach [] X.env := by rfl)
    (hpl : (backTo pos (starEach [ce] X.env)).any (·.1) = false := by rfl) : PEL X (.Call (.Name "isinstance" p) [e, ce] [] pos) (lIsE tab l) := by
  refine ⟨fun pins s σ H m ρ S I x r hp => ?_⟩
  refine wpAny_Call_Name_kw (ld_blt I hg hm (u := .builtin "isinstance") (by decide +kernel) ?_ (by decide) (by decide))
  refine PyProof.Rows.callWith_builtin1 ?_ hs hpl
  rw [hs]
  show wpAny _ _ (spliced ((false, eval e X.env) :: backTo pos (starEach [ce] X.env))) _ _ s
  refine Calls.spliced_cons (run_seq he I x r hp fun d S1 q1 v u s1 H1 m1 I1 rv e1 x1 w1 r1 hp1 => ?_)
  rw [hs2]
  show wpAny _ _ (spliced ((false, eval ce X.env) :: backTo pos (starEach [] X.env))) _ _ s1
  refine Calls.spliced_cons (thn (hc.run pins s1 σ H1 (fun v' H' => v' = cw ∧ H' = H1) I1 ⟨rfl, rfl⟩) fun u2 s2 ⟨v2, H2, I2, rv2, ev, eH⟩ => ?_)
  subst ev
  subst eH
  refine Calls.spliced_nil ?_
  obtain ⟨d', q2⟩ := lift_ok hp1
  have e0 : lIsE tab l ρ S = .ok d' S1 := by unfold lIsE; rw [q1, bind_ok, q2]; rfl
  rw [e0]
  unfold gIsE at q2
  split at q2
  · rename_i C gs q3
    cases qb : tab C with
    | none => rw [qb] at q2; cases q2
    | some b =>
      rw [qb] at q2
      cases q2
      obtain ⟨k1, T⟩ := ok.one C b qb
      obtain ⟨a, ox, od, rfl, J, _⟩ := exn_inst I2 (vw_exn w1 q3)
      have ec := hcv.eq rv2
      subst ec
      obtain rfl : u = Value.ref a := rv
      exact PySem.W.kia_one (PySem.W.kitx_excD T.hg T.hk T.hs T.hd T.ha T.hn T.ht T.hm) I2.kIn J k1 (fun z => nomatch z) fun tk => ⟨_, S1, rfl, .bl b, H2, m1, I2.tok tk, rfl, e1, x1, .bl b⟩
  · cases q2
end
end MP

/-! own exceptions made as values -/
namespace MP
open PySem PySem.Spec PyProof.Rows L2
theorem upd_comm {H : Hp} {a b : Addr} {o u : HO} (h : a ≠ b) : upd (upd H a o) b u = upd (upd H b u) a o := by
  funext c
  unfold upd
  by_cases h1 : c = b
  · rw [if_pos h1, if_neg (fun z => h (z.symm.trans h1)), if_pos h1]
  · rw [if_neg h1]
    by_cases h2 : c = a
    · rw [if_pos h2, if_pos h2]
    · rw [if_neg h2, if_neg h2, if_neg h1]
/-! ### the bodies of __init__ -/
theorem rd_init1 {K : PySem.W.Frag} {f msg : Str} {N : List Str} {vs : List V} {H : Hp} {Q : VK} {E : XK} (h : spE K [f] vs H Q E) :
    tSeq (tDrop (tVeI K (tCons (tVar 0) (tCons (tC (.str msg)) L2.tNil)))) (tSeq (tOst K f (tVar 0) (tVar 1)) tNext) { nx := fun _ H' => Q .non H', rt := Q } (L2.start N vs) H := by
  obtain ⟨e, C, ys, rfl, hl, T, hno, he, hq⟩ := h
  match ys, hl with
  | [y], _ =>
    refine ⟨.ref e, rfl, e, C, [.str msg], rfl, by simp, T, he, y, rfl, .ref e, rfl, e, C, rfl, T, hno f (by simp), .inl ⟨he, fun dx n ne => ?_⟩⟩
    exact hq dx n ne
theorem rd_init2 {K : PySem.W.Frag} {f g msg : Str} {N : List Str} {vs : List V} {H : Hp} {Q : VK} {E : XK} (h : spE K [f, g] vs H Q E) :
    tSeq (tDrop (tVeI K (tCons (tVar 0) (tCons (tC (.str msg)) L2.tNil)))) (tSeq (tOst K f (tVar 0) (tVar 1)) (tSeq (tOst K g (tVar 0) (tVar 2)) tNext)) { nx := fun _ H' => Q .non H', rt := Q } (L2.start N vs) H := by
  obtain ⟨e, C, ys, rfl, hl, T, hno, he, hq⟩ := h
  match ys, hl with
  | [y, z], _ =>
    refine ⟨.ref e, rfl, e, C, [.str msg], rfl, by simp, T, he, y, rfl, .ref e, rfl, e, C, rfl, T, hno f (by simp), .inl ⟨he, fun dx n ne => ?_⟩⟩
    refine ⟨z, rfl, .ref e, rfl, e, C, rfl, T, hno g (by simp), .inr ⟨dx, [(f, y)], upd_same, ?_, by simp, ?_⟩⟩
    · rw [upd_ne ne, upd_same]
    · have q := hq dx n ne
      have e1 : upd (upd (upd H dx (exd dx [(f, y)])) e (exo e C (some dx))) dx (exd dx [(g, z), (f, y)]) = upd (upd H dx (exd dx [(g, z), (f, y)])) e (exo e C (some dx)) := by
        rw [upd_comm (a := e) (b := dx) (Ne.symm ne), L2.upd_upd]
      show Q .non (upd (upd (upd H dx (exd dx [(f, y)])) e (exo e C (some dx))) dx (exd dx [(g, z), (f, y)]))
      rw [e1]
      exact q

theorem vfs_zip {K : PySem.W.Frag} {m : List Addr} {H : Hp} : ∀ {fs : List Str} {vs : List V} {ds : List D}, VRs K m H vs ds → VFs K m H (fs.zip vs) (fs.zip ds)
  | [], _, _, _ => .nil
  | _ :: _, _, _, .nil => .nil
  | _ :: _, _, _, .cons h r => .cons h (vfs_zip r)
theorem vfs_append {K : PySem.W.Frag} {m : List Addr} {H : Hp} {vs ws : List (Str × V)} {ds es : List (Str × D)} : VFs K m H vs ds → VFs K m H ws es → VFs K m H (vs ++ ws) (ds ++ es)
  | .nil, r => r
  | .cons h r, r' => .cons h (vfs_append r r')
theorem vfs_rev {K : PySem.W.Frag} {m : List Addr} {H : Hp} : ∀ {vs : List (Str × V)} {ds : List (Str × D)}, VFs K m H vs ds → VFs K m H vs.reverse ds.reverse
  | _, _, .nil => .nil
  | _, _, .cons h r => by
    rw [List.reverse_cons, List.reverse_cons]
    exact vfs_append (vfs_rev r) (.cons h .nil)
/-- what a class C with an __init__ of its own must have -/
structure MkE (K : PySem.W.Frag) (C f : Addr) (fs : List Str) : Prop where
  T : OexC K C
  i : PySem.W.findIn K (.ref C) "__init__" = some (some (.ref f))
  t : PySem.W.typeIn K (.ref f) = some (.type "function")
  no : ∀ g ∈ fs, PySem.W.findIn K (.ref C) g = some none
section
variable {X : Cx} {pins : List (Addr × Obj)} {σ : L2.St} {H : Hp} {s : Shared} {m : List Addr} {S : Sto} {C f : Addr} {fs ps : List Str} {k : Nat} {fd : FuncData}
abbrev FnE (P : Program) (w : World) (K : PySem.W.Frag) (mg : Str → Option Value) (base : Heap) (k : Nat) (f : Addr) (fd : FuncData) (ps fs : List Str) : Prop := FnOk P w K mg base (L2.CX P w) k f fd ps (spE K fs)
theorem run_makeE {us full : List Value} {kw : List (Str × Value)} {ys : List V} {ds : List D} (M : MkE X.K C f fs) (Fn : FnE X.prog X.w X.K X.mg X.base k f fd ps fs) (hr : Room (k + 1) X.A)
    (hb : ∀ s a, X.K.In s.heap → BindsTo s fd ⟨.ref a :: us, kw⟩ (ps.zip (.ref a :: full))) (hus : us.length ≤ sizeLine) (I : Inv X pins σ H s) (x : SR X.K m H S) (r : Vals ys full) (rd : VRs X.K m H ys ds) (hl : ys.length = fs.length) :
    wpAny (model X.prog X.w) X.A (call (.ref C) us kw) (VP X pins σ m H (.exn C (fs.zip ds).reverse) S) X.xe s := by
  obtain ⟨nm, q, N, bs, bm, sn, sub, ab, col, dd, k0, k1, k2, k3, k5, hC, hbm⟩ := M.T.cls
  obtain ⟨hp, g, dr, tk, os⟩ := s
  obtain ⟨a, ha⟩ : ∃ a, a = hp.objs.size + 1 := ⟨_, rfl⟩
  have hn : H a = none := by rw [ha]; exact I.hok.fresh (Nat.le_succ _)
  have kk : ∀ b o, hp.get? b = some o → ((hp.push (PySem.W.kdv_tup us)).push (PySem.HandSPX.excO C hp.objs.size)).get? b = some o := fun b o e => Heap.get?_push_of_some _ (Heap.get?_push_of_some _ e)
  have hget : ((hp.push (PySem.W.kdv_tup us)).push (PySem.HandSPX.excO C hp.objs.size)).get? a = some (PySem.HandSPX.excO C hp.objs.size) := by rw [ha]; heap_get
  have I2 : Inv X pins σ (upd H a (exo a C none)) ⟨(hp.push (PySem.W.kdv_tup us)).push (PySem.HandSPX.excO C hp.objs.size), g, dr, tk, os⟩ :=
    I.laid (t' := tk) (a := a) (o := exo a C none) (h' := (hp.push (PySem.W.kdv_tup us)).push (PySem.HandSPX.excO C hp.objs.size)) kk (by rw [ha]; exact Nat.le_succ _) (exo_ok hget)
  have r2 : Vals (V.ref a :: ys) (Value.ref a :: full) := .cons rfl r
  have hsp : spE X.K fs (V.ref a :: ys) (upd H a (exo a C none)) (fun v H2 => v = .non ∧ ∃ dx, H dx = none ∧ dx ≠ a ∧ H2 = upd (upd (upd H a (exo a C none)) dx (exd dx (fs.zip ys).reverse)) a (exo a C (some dx))) (fun _ _ _ => False) :=
    ⟨a, C, ys, rfl, hl, M.T, M.no, upd_same, fun dx n ne => ⟨rfl, dx, by rw [upd_ne ne] at n; exact n, ne, rfl⟩⟩
  refine wpAny_call (PySem.MPX.call_kw F.excBase_ValueError (fun Y => PySem.HandSPX.refsVE_contains Y bm hbm) (I.kIn _ _ hC) (PySem.W.looks_findIn I.kIn M.i) (fun self => PySem.W.bind_fn I.kIn self M.t) hus ?_)
  rw [← ha]
  refine codeAny_mono (Fn.run _ X.stack _ _ ⟨Value.ref a :: us, kw⟩ (Value.ref a :: full) _ _ (fun _ _ _ => False) (hr.make C us kw) (I2.env0.make C us kw) (hb _ a I2.kIn) r2 hsp) fun r s' hq => ?_
  cases r with
  | error er => exact passL pins σ _ _ er s' I2 hq
  | ok fl =>
    cases fl with
    | ret u =>
      obtain ⟨v, H3, I3, rv, ev, dx, hdx, dne, rfl⟩ := I2.after hq
      subst ev
      obtain rfl : u = Value.none := rv
      refine ⟨rfl, ?_⟩
      obtain ⟨t1, hx⟩ := exo_at I3.hok (show upd (upd (upd H a (exo a C none)) dx (exd dx (fs.zip ys).reverse)) a (exo a C (some dx)) a = some (exo a C (some dx)) from upd_same)
      have ox : ObjOk X.prog X.w (upd (upd (upd (upd H a (exo a C none)) dx (exd dx (fs.zip ys).reverse)) a (exo a C (some dx))) a (ExV C (some dx) a)) s'.heap a (ExV C (some dx) a) :=
        ⟨⟨_, _, hx, ⟨rfl, rfl⟩, rfl⟩, ⟨_, hx⟩, fun h1 h2 z kz => by
          obtain ⟨oe, vs, z1, z2, z3⟩ := z
          exact ⟨oe, vs, kz _ z1, z2, z3⟩⟩
      have I4 := I3.write (t' := s'.toks) (x := a) (e := a) (o := ExV C (some dx) a) (h' := s'.heap) (by rw [upd_same]; exact True.intro) (.inl rfl) (fun _ _ _ z => z) ⟨_, hx⟩ ox
      have eH : upd (upd (upd (upd H a (exo a C none)) dx (exd dx (fs.zip ys).reverse)) a (exo a C (some dx))) a (ExV C (some dx) a) = upd (upd H dx (exd dx (fs.zip ys).reverse)) a (ExV C (some dx) a) := by
        rw [L2.upd_upd, upd_comm (a := a) (b := dx) (Ne.symm dne), L2.upd_upd]
      rw [eH] at I4
      have hn' : (upd H dx (exd dx (fs.zip ys).reverse)) a = none := by rw [upd_ne (Ne.symm dne)]; exact hn
      have x1 : SR X.K m (upd H dx (exd dx (fs.zip ys).reverse)) S := x.fresh hdx
      have E1 : Ext m H m (upd H dx (exd dx (fs.zip ys).reverse)) := Ext.fresh hdx
      have x2 : SR X.K m (upd (upd H dx (exd dx (fs.zip ys).reverse)) a (ExV C (some dx) a)) S := x1.fresh hn'
      have E2 : Ext m H m (upd (upd H dx (exd dx (fs.zip ys).reverse)) a (ExV C (some dx) a)) := E1.trans (Ext.fresh hn')
      refine ⟨.ref a, _, m, I4, rfl, E2, x2, ?_⟩
      exact .exnD (x.nin hn) (x.nin hdx) upd_same (.inl (by rw [upd_ne dne, upd_same])) (vfs_rev (vfs_zip (rd.ext E2 x.muts)))
    | next => exact False.elim hq
    | brk => exact False.elim hq
    | cont => exact False.elim hq
end
end MP

namespace MP
open PySem PySem.Spec PyProof.Rows L2
section
variable {X : Cx} {e : Expr} {pos p : Pos} {es : List Expr} {kws : List Keyword} {t tk : LA} {x : Str} {k : Nat} {f C : Addr} {fd : FuncData} {ps ks fs : List Str}
def mkE (C : Addr) (fs : List Str) (ds : List D) (S : Sto) : R D := if ds.length = fs.length then .ok (.exn C (fs.zip ds).reverse) S else .bad
/-- C(e, ..), an own exception class with an __init__ of its own -/
theorem pel_makeE (M : MkE X.K C f fs) (Fn : FnE X.prog X.w X.K X.mg X.base k f fd ps fs) (hr : Room (k + 1) X.A) (hg : Gl X x) (hm : X.mg x = some (.ref C)) (hb : Binds X.K fd ps [])
    (ha : PAL X (e :: es) t) (hdb : (x == ("__debug__" : Str)) = false := by decide) (he : starEach (e :: es) X.env = (false, eval e X.env) :: starEach es X.env := by rfl) (hpl : (backTo pos (starEach es X.env)).any (·.1) = false := by rfl) (hps : ps.length = fs.length + 1 := by rfl) (hz : fs.length ≤ 1000 := by decide) :
    PEL X (.Call (.Name x p) (e :: es) [] pos) (fun ρ S => (t ρ S).bind fun ds S1 => mkE C fs ds S1) := by
  refine ⟨fun pins s σ H m ρ S I x r hp => ?_⟩
  refine wpAny_Call_Name_kw (ld_glob I hg hm ?_ hdb)
  refine PySem.W.callWith_K (h₀ := X.base) I.ok.mod.kin M.T.kC (run_seqA ha I x r hp fun ds S1 q1 vs us s1 H1 m1 I1 rv e1 x1 w1 r1 hp1 => ⟨I1.kIn, ?_⟩) he hpl
  have hl := hope_if hp1
  rw [q1, bind_ok]
  unfold mkE
  rw [if_pos hl]
  have l1 : vs.length = fs.length := by rw [w1.length]; exact hl
  have l2 : us.length = fs.length := by rw [← rv.length]; exact l1
  show wpAny _ _ (call (.ref C) us) _ _ _
  refine thn (run_makeE (kw := []) M Fn hr (fun s a hi => ?_) (by rw [l2, sizeLine_eq]; omega) I1 x1 rv w1 l1) fun _ _ z => (vpr_of z).left e1
  have z := hb s (.ref a :: us) hi (by rw [List.append_nil, List.length_cons, l2, hps])
  rw [List.append_nil] at z
  exact z
/-- C(k = v, ..), likewise; pk: the order of the values, self being 0 -/
def mkEk (C : Addr) (fs ks : List Str) (pk : List Nat) (ds : List D) (S : Sto) : R D := if ds.length = ks.length ∧ (pick pk ds).length = fs.length then .ok (.exn C (fs.zip (pick pk ds)).reverse) S else .bad
theorem pel_makeEk {pk : List Nat} (M : MkE X.K C f fs) (Fn : FnE X.prog X.w X.K X.mg X.base k f fd ps fs) (hr : Room (k + 1) X.A) (hg : Gl X x) (hm : X.mg x = some (.ref C)) (hb : KwB X.K fd ps 1 ks (0 :: pk.map (· + 1)) [])
    (hkw : PKL X kws tk) (hall : (backToKw pos (keywordEach kws X.env)).all (·.1.isSome) = true := by rfl) (hks : (backToKw pos (keywordEach kws X.env)).filterMap (·.1) = ks := by rfl)
    (hdb : (x == ("__debug__" : Str)) = false := by decide)
    (hpl : ((backTo pos (starEach [] X.env)).any (·.1) || (backToKw pos (keywordEach kws X.env)).any (·.1.isNone)) = false := by rfl) :
    PEL X (.Call (.Name x p) [] kws pos) (fun ρ S => (tk ρ S).bind fun es S2 => mkEk C fs ks pk es S2) := by
  refine ⟨fun pins s σ H m ρ S I x r hp => ?_⟩
  refine wpAny_Call_Name_kw (ld_glob I hg hm ?_ hdb)
  refine PySem.W.callWith_KW0 (h₀ := X.base) I.ok.mod.kin M.T.kC hall ?_ hpl
  refine thn (hkw.run pos pins s σ H m ρ S I x r (hope_seq hp)) fun ws s2 ⟨zs, S2, zv, H2, m2, q2, I2, rv2, e2, x2, w2⟩ => ⟨I2.kIn, ?_⟩
  rw [q2] at hp ⊢
  have hl := hope_if (hp.ext e2 : Hope X σ m2 H2 (mkEk C fs ks pk zs S2))
  rw [bind_ok, hks]
  unfold mkEk
  rw [if_pos hl]
  have l2 : ws.length = ks.length := by rw [← rv2.length, w2.length]; exact hl.1
  have w3 := w2.pick pk
  have r3 := vals_pick rv2 pk
  refine thn (run_makeE (us := []) (full := pick pk ws) (kw := ks.zip ws) M Fn hr (fun s a hi => ?_) (by simp) I2 x2 r3 w3 (by rw [w3.length]; exact hl.2)) fun _ _ z => (vpr_of z).left e2
  have z := hb.to s [.ref a] ws hi rfl l2
  have e0 : pick (0 :: pk.map (· + 1)) ([Value.ref a] ++ ws ++ []) = .ref a :: pick pk ws := by
    rw [List.append_nil]
    unfold pick
    rw [List.filterMap_cons_some (show ([Value.ref a] ++ ws)[0]? = some (.ref a) from rfl), List.filterMap_map]
    rfl
  rw [e0] at z
  exact z
theorem exV_ok {P : Program} {w : World} {H : Hp} {h : Heap} {a : Addr} {d : Option Addr} {oe : Obj} {vs : Array Value} (e1 : h.get? a = some oe) (z : Zc (.ref C) d oe) (d1 : oe.data = .fields vs) : ObjOk P w H h a (ExV C d a) :=
  ⟨⟨oe, vs, e1, z, d1⟩, ⟨oe, e1⟩, fun h1 h2 z kz => by
    obtain ⟨oe, vs, z1, z2, z3⟩ := z
    exact ⟨oe, vs, kz _ z1, z2, z3⟩⟩
/-- C(e), an own exception class without an __init__ of its own: the text is not told -/
theorem pel_exc1 {l : LE} {bmB : List Value} {B newId initId : String} (F : ExcBaseFacts B newId initId bmB) (q : PySem.W.excIn X.K C bmB newId = true) (gC : X.mg x = some (.ref C)) (kC : PySem.W.keepIn X.K (.ref C) = true) (hg : Gl X x)
    (he : PEL X e l) (hs : starEach [e] X.env = (false, eval e X.env) :: starEach [] X.env := by rfl) (hdb : (x == ("__debug__" : Str)) = false := by decide) :
    PEL X (.Call (.Name x p) [e] [] pos) (fun ρ S => (l ρ S).bind fun _ S1 => .ok (.exn C []) S1) := by
  refine ⟨fun pins s σ H m ρ S I x r hp => ?_⟩
  refine wpAny_Call_Name_kw (ld_glob I hg gC ?_ hdb)
  refine PySem.W.callWith_K (h₀ := X.base) I.ok.mod.kin kC ?_ hs (by rfl)
  rw [hs]
  show wpAny _ _ (spliced ((false, eval e X.env) :: backTo pos (starEach [] X.env))) _ _ s
  refine Calls.spliced_cons (run_seq he I x r hp fun d S1 q1 v u s1 H1 m1 I1 rv e1 x1 w1 r1 hp1 => ?_)
  refine Calls.spliced_nil ⟨I1.kIn, ?_⟩
  show wpAny _ _ (call (.ref C) [u]) _ _ _
  rw [q1, bind_ok]
  obtain ⟨bm, N, nm, qn, bs, hdct, sn, sub, ab, col, dd, k0, k1, k2, k3, k5, mN, hC, hN, hni, T⟩ := exc_obj I1.kIn q
  refine wpAny_call_exc_subT F T hC hN hni (fun h' a hm => ?_) (by show 1 ≤ sizeLine; rw [sizeLine_eq]; omega)
  have hn : H1 a = none := I1.hok.gone hm.new
  obtain ⟨t, ht, _, _⟩ := hm.there
  exact (vpr_of ⟨.ref a, upd H1 a (ExV C none a), m1, I1.laidN hm.keeps hm.new hn (exV_ok ht ⟨rfl, rfl⟩ rfl), rfl, Ext.fresh hn, x1.fresh hn, .exn0 (x1.nin hn) upd_same⟩).left e1
end
end MP

/-! an exception that a handler keeps: it is taken into the abstract heap -/
namespace MP
open PySem PySem.Spec PyProof.Rows L2
section
variable {X : Cx} {pins : List (Addr × Obj)} {σ : L2.St} {H : Hp} {s : Shared} {a : Addr} {o : HO}
theorem inv_suiteA (I : Inv X pins σ H s) : Inv (X.suite a (X.pn ++ pins)) [] σ H s :=
  ⟨I.ok.suite _ _, I.os, I.bare, I.base, I.loc, I.cell, I.free, I.freeC, fun p hp => I.pin p (by rw [List.append_nil] at hp; exact hp), I.hok, I.len⟩
theorem inv_unsuiteA {pn' : List (Addr × Obj)} (I : Inv (X.suite a (X.pn ++ pins)) pn' σ H s) (ok : X.Ok) : Inv X pins σ H s :=
  ⟨ok, I.os, I.bare, I.base, I.loc, I.cell, I.free, I.freeC, fun p hp => I.pin p (List.mem_append_left _ hp), I.hok, I.len⟩
theorem inv_adopt (I : Inv X pins σ H s) (na : H a = none) (n0 : X.s_0.heap.get? a = none) (nL : a ≠ X.env.locals) (nC : ∀ x c, X.env.cells.lookup x = some c → c ≠ a) (nP : ∀ p ∈ X.pn ++ pins, p.1 ≠ a) (new : ObjOk X.prog X.w (upd H a o) s.heap a o) :
    Inv X pins σ (upd H a o) s := by
  have ne0 : ∀ {b : Addr} {u : Obj}, X.s_0.heap.get? b = some u → b ≠ a := fun {b u} e z => by
    rw [z, n0] at e
    cases e
  refine ⟨I.ok, I.os, I.bare, ⟨I.base.keep, I.base.slot, fun b u e n hx => ?_, I.base.there, fun b xs e => ?_, fun b u v e => ?_, fun b ps e => ?_⟩, I.loc, I.cell, ?_, fun x c e => ?_, fun p hp => ?_, I.hok.laidN (fun _ _ z => z) na new, I.len⟩
  · rw [upd_ne (ne0 e)]
    exact I.base.free b u e n hx
  · rw [upd_ne (ne_of_none (I.base.tups b xs e) na)]
    exact I.base.tups b xs e
  · rw [upd_ne (ne_of_none (I.base.frzs b u v e) na)]
    exact I.base.frzs b u v e
  · obtain ⟨more, z⟩ := I.base.tbls b ps e
    exact ⟨more, by rw [upd_ne (ne_of_none z na)]; exact z⟩
  · rw [upd_ne (Ne.symm nL)]
    exact I.free
  · rw [upd_ne (nC x c e)]
    exact I.freeC x c e
  · obtain ⟨e, n, r⟩ := I.pin p hp
    exact ⟨e, by rw [upd_ne (nP p hp)]; exact n, r⟩
end
end MP

/-! try: .. except C as n: .., the exception being a value from the handler on (the road of L2.ps_try_as) -/
namespace MP
open PySem PySem.Spec PyProof.Rows L2
def endH (i : Nat) (fl : Fl) (S : Sto) : R Fl := match fl with
  | .nx ρ => .ok (.nx (ρ.set i none)) S
  | .bk ρ => .ok (.bk (ρ.set i none)) S
  | .ct ρ => .ok (.ct (ρ.set i none)) S
  | .rt d => .ok (.rt d) S
  | .ex _ _ _ => .bad
def catchH (i : Nat) (tab : Addr → Option Bool) (ls : LS) (fl : Fl) (S : Sto) : R Fl := match fl with
  | .ex C fs ρ => match tab C with
    | some true => (ls (ρ.set i (some (.exn C fs))) S).bind (endH i)
    | some false => .ok (.ex C fs ρ) S
    | none => .bad
  | fl => .ok fl S
def lTryA (i : Nat) (tab : Addr → Option Bool) (lb ls : LS) : LS := fun ρ S => (lb ρ S).bind (catchH i tab ls)
theorem ER.clr {K : PySem.W.Frag} {m : List Addr} {H : Hp} {σ : L2.St} {ρ : Ev} (r : ER K m H σ ρ) (i : Nat) : ER K m H (σ.set i none) (ρ.set i none) := ⟨fun j d e => by
  by_cases hj : i = j
  · subst hj
    by_cases hi : i < ρ.length
    · rw [List.getElem?_set_self hi] at e
      cases e
    · rw [List.getElem?_eq_none (by simpa using hi)] at e
      cases e
  · rw [List.getElem?_set_ne hj] at e ⊢
    exact r.at_ j d e, by simp [r.len]⟩
section
variable {X : Cx} {x n : Str} {c : Value} {i : Nat} {body suite : List Stmt} {b₀ : Stmt} {np pos pos' : Pos} {lb ls : LS} {tab : Addr → Option Bool}
theorem psl_tryA (hs : X.stack = X.env :: X.outer) (hf : X.env.frame = some X.env.locals) (hN : X.N.Nodup) (hi : X.N[i]? = some n) (hln : X.env.kindOf n = some .local) (hc : Names X x c) (hex : X.ex = [])
    (htab : ∀ C b, tab C = some b → PySem.W.exmOne X.K (.ref C) c = some b)
    (hb : ∀ (pn : List (Addr × Obj)) (xe : Value → Shared → Prop), PassesOwn (model X.prog X.w) X.A X.env xe → PSsL (X.tr pn xe) body lb)
    (hsu : ∀ (a : Addr) (pn : List (Addr × Obj)), PSsL (X.suite a pn) (b₀ :: suite) ls) :
    PSL X (.Try body [.ExceptHandler (some (.Name x np)) (some n) (b₀ :: suite) pos'] [] [] pos) (lTryA i tab lb ls) := by
  refine ⟨fun pins s σ H D I ⟨m, ρ, S, x0, er, hl, h⟩ => ?_⟩
  have ok := I.ok
  have hfr : X.A.frames = some (X.env :: X.outer) := by rw [ok.frames, hs]
  have hloc : Loc X.env.scope n := .inl hln
  have hval : ∀ {fl : Fl} {S1 : Sto}, lb ρ S = .ok fl S1 → lTryA i tab lb ls ρ S = catchH i tab ls fl S1 := fun {fl S1} q => by
    unfold lTryA
    rw [q]
    rfl
  obtain ⟨fl0, S0, q0⟩ := h.ok
  obtain ⟨fl1, S1, q1, q2⟩ := bind_nbad q0
  refine wpAny_Try_except ?_
  refine wpAny_mono ((hb (X.pn ++ pins) (fun e s₁ => wpAny (model X.prog X.w) X.A (noteFrame e X.env) (fun _ s₂ => wpAny (model X.prog X.w) X.A (setFlight e none) (fun _ s₃ =>
    wpAny (model X.prog X.w) X.A (handleBy e X.env [.ExceptHandler (some (.Name x np)) (some n) (b₀ :: suite) pos']) (SP X pins D) X.xe s₃) X.xe s₂) X.xe s₁) PassesOwn.looking).run [] s σ H D (I.toTry _)
      ⟨m, ρ, S, x0, er, hl, ⟨⟨fl1, S1, q1⟩, fun ρ' S' q σ' H' z => h.nx ρ' S' ((hval q).trans rfl) σ' H' z, fun d S' q v H' z => h.rt d S' ((hval q).trans rfl) v H' z, fun ρ' S' q σ' H' z => h.bk ρ' S' ((hval q).trans rfl) σ' H' z, fun ρ' S' q σ' H' z => h.ct ρ' S' ((hval q).trans rfl) σ' H' z, ?_⟩⟩) (fun f s1 hsp => ?_) (fun e s1 he => he)
  · intro C fs ρ' S' q u s' xx
    have hv := hval q
    obtain ⟨a, B, sI, pins', σ', H', cls, d, rfl, J', nb, up, sky, na, os, ag, wc, dd, vs, m', wd, hxd, e', x', vfs, er', hl'⟩ := xx
    subst wc
    subst wd
    have J : Inv X pins σ' H' sI := J'.ofTry ok
    have sky' : Sky B (X.env :: X.outer) a (Zc (.ref C) (some dd)) X.env.locals s'.heap := by rw [← hs]; exact sky
    show wpAny (model X.prog X.w) X.A (noteFrame (.ref a) X.env) _ _ _
    refine Sky.land Zc.steady hfr hf sky' fun h3 fl3 up3 => ?_
    have J3 : Inv X pins σ' H' { s' with heap := h3 } := J.landed nb fl3.1 (up.trans up3) os ag
    obtain ⟨oe3, vs3, he3, hz3, hd3⟩ := fl3.there
    have notFr : ∀ {h : Heap} {o : Obj} {vs : Array Value}, h.FunFrames B (X.env :: X.outer) → h.get? a = some o → o.data = .fields vs → a ∉ frs (X.env :: X.outer) := fun {h o vs} ff e dd hm => by
      obtain ⟨_, o', e', hnf⟩ := ff.mem hm
      rw [e] at e'; cases e'
      exact hnf _ dd
    have nfr := notFr fl3.2.2.1 he3 hd3
    have nL : a ≠ X.env.locals := fun z => nfr (List.mem_filterMap.mpr ⟨X.env, List.mem_cons_self, by rw [hf, z]⟩)
    have nF : a ∉ X.fs := fun hm => by
      obtain ⟨e, he, q⟩ := List.mem_filterMap.mp hm
      exact nfr (List.mem_filterMap.mpr ⟨e, List.mem_cons_of_mem _ he, q⟩)
    have hBa : B.get? a = none := fl3.2.1
    have hIa : sI.heap.get? a = none := by
      cases z : sI.heap.get? a with
      | none => rfl
      | some o =>
        have z2 := nb a o z (by rw [hs]; exact nfr)
        rw [hBa] at z2
        cases z2
    have n0 : X.s_0.heap.get? a = none := by
      cases z : X.s_0.heap.get? a with
      | none => rfl
      | some o =>
        obtain ⟨o', z2⟩ := J.base.there a o z (by rw [hex]; simp)
        rw [hIa] at z2
        cases z2
    have nC : ∀ y c, X.env.cells.lookup y = some c → c ≠ a := fun y c e z => by
      obtain ⟨w, o, z2, _⟩ := J.cell y c e
      rw [z, hIa] at z2
      cases z2
    have nP : ∀ p ∈ X.pn ++ pins, p.1 ≠ a := fun p hp z => by
      have z2 := (J.pin p hp).1
      rw [z, hIa] at z2
      cases z2
    have S3 := J3.suite he3 hd3 na nL nF
    refine wpAny_handleBy_cons (codeAny_handlers_test ?_) (by intro q; cases q)
    have LT : PySem.W.Looks (model X.prog X.w) h3 (typeOf (.ref a)) (.ref C) := fun A Q E s k q => wpAny_typeOf_ref (k _ _ he3) (by rw [hz3.1]; exact q)
    cases hb1 : tab C with
    | none =>
      obtain ⟨f2, S2, z⟩ := h.ok
      rw [hv] at z
      unfold catchH at z
      dsimp only at z
      rw [hb1] at z
      cases z
    | some b =>
    have LM := PySem.W.exm_one (M := model X.prog X.w) (J3.kIn) LT (htab C b hb1)
    have test : ∀ {Q : Value → Shared → Prop} {E : Value → Shared → Prop}, Q c { s' with heap := h3 } → wpAny (model X.prog X.w) (X.A.mark (some (.ref a))) (eval (.Name x np) X.env) Q E { s' with heap := h3 } := fun {Q E} q => by
      obtain ⟨hg, hdbg, hm | ⟨hm, hv, hnn⟩⟩ := hc
      · exact ld_glob (X := X.suite a ((a, oe3) :: (X.pn ++ pins))) S3 hg hm q hdbg
      · exact ld_blt (X := X.suite a ((a, oe3) :: (X.pn ++ pins))) S3 hg hm hv q hnn hdbg
    refine test (LM.here ?_)
    cases b with
    | true =>
      refine codeAny_handlers_suite_as ?_
      refine HandSPX.lands_againZ fl3 fun h4 fl4 up4 => ?_
      have J4 : Inv X pins σ' H' { s' with heap := h4 } := J.landed nb fl4.1 ((up.trans up3).trans up4) os ag
      obtain ⟨oe4, vs4, he4, hz4, hd4⟩ := fl4.there
      have I5 : Inv X pins σ' (upd H' a (ExV C (some dd) a)) { s' with heap := h4 } := inv_adopt J4 na n0 nL nC nP (exV_ok he4 hz4 hd4)
      have x5 : SR X.K m' (upd H' a (ExV C (some dd) a)) S' := x'.fresh na
      have e5 : Ext m' H' m' (upd H' a (ExV C (some dd) a)) := Ext.fresh na
      have hdd : dd ≠ a := fun z => by
        rw [z, na] at hxd
        cases hxd
      have ndd : dd ∉ m' := fun z => by
        have mu := x'.mut z
        rw [hxd] at mu
        exact mu
      have w5 : VR X.K m' (upd H' a (ExV C (some dd) a)) (.ref a) (.exn C fs) := .exnD (x'.nin na) ndd upd_same (.inr (by rw [upd_ne hdd]; exact hxd)) (vfs.ext e5 x'.muts)
      have S4 := inv_suiteA (a := a) I5
      have hcat : lTryA i tab lb ls ρ S = (ls (ρ'.set i (some (.exn C fs))) S').bind (endH i) := by
        rw [hv]
        unfold catchH
        dsimp only
        rw [hb1]
      rw [hcat] at h
      obtain ⟨f3, S3', q3⟩ := h.ok
      obtain ⟨f4, S4', q4, q5⟩ := bind_nbad q3
      have hend : ∀ {fl : Fl} {S2 : Sto}, ls (ρ'.set i (some (.exn C fs))) S' = .ok fl S2 → (ls (ρ'.set i (some (.exn C fs))) S').bind (endH i) = endH i fl S2 := fun {fl S2} q => by rw [q]; rfl
      have e6 := e'.trans e5
      refine store_ok (X := X.suite a (X.pn ++ pins)) (v := .ref a) S4 hN hi hloc rfl (fun s5 S5 => ?_) (.inr hln)
      refine wpAny_mono ((hsu a (X.pn ++ pins)).run [] s5 _ _ { nx := fun σ6 H6 => D.nx (σ6.set i none) H6, rt := D.rt, bk := fun σ6 H6 => D.bk (σ6.set i none) H6, ct := fun σ6 H6 => D.ct (σ6.set i none) H6 } S5
        ⟨m', ρ'.set i (some (.exn C fs)), S', x5, (er'.ext e5 x'.muts).set w5, by simp [hl'], ⟨⟨f4, S4', q4⟩, fun ρ2 S2 q σ6 H6 z => ?_, fun d2 S2 q v6 H6 z => ?_, fun ρ2 S2 q σ6 H6 z => ?_, fun ρ2 S2 q σ6 H6 z => ?_, fun C2 fs2 ρ2 S2 q u2 s2 z => ?_⟩⟩) (fun f s6 hsp => ?_) (fun _ _ z => False.elim z)
      · obtain ⟨m6, e7, x7, er7, hl7⟩ := z
        exact h.nx (ρ2.set i none) S2 (hend q) _ _ ⟨m6, e6.trans e7, x7, er7.clr i, by simp [hl7]⟩
      · exact h.rt d2 S2 (hend q) _ _ (z.left e6)
      · obtain ⟨m6, e7, x7, er7, hl7⟩ := z
        exact h.bk (ρ2.set i none) S2 (hend q) _ _ ⟨m6, e6.trans e7, x7, er7.clr i, by simp [hl7]⟩
      · obtain ⟨m6, e7, x7, er7, hl7⟩ := z
        exact h.ct (ρ2.set i none) S2 (hend q) _ _ ⟨m6, e6.trans e7, x7, er7.clr i, by simp [hl7]⟩
      · rw [hend q] at q3
        cases q3
      have end_ : ∀ {σ6 : L2.St} {H6 : Hp} {Q : Shared → Prop}, Inv (X.suite a (X.pn ++ pins)) [] σ6 H6 s6 → (∀ s7, Inv X pins (σ6.set i none) H6 s7 → Q s7) →
          wpAny (model X.prog X.w) X.A (do bindName X.env n .none; unbindBehindTheSuite X.env n pos') (fun _ s7 => Q s7) X.xe s6 := fun {σ6 H6 Q} S6 hq => gone_ok (inv_unsuiteA S6 ok) hN hi hln hq
      cases f with
      | next =>
        obtain ⟨σ6, H6, S6, q6⟩ := hsp
        exact end_ S6 fun s7 J7 => ⟨_, _, J7, q6⟩
      | brk =>
        obtain ⟨σ6, H6, S6, q6⟩ := hsp
        exact end_ S6 fun s7 J7 => ⟨_, _, J7, q6⟩
      | cont =>
        obtain ⟨σ6, H6, S6, q6⟩ := hsp
        exact end_ S6 fun s7 J7 => ⟨_, _, J7, q6⟩
      | ret u =>
        obtain ⟨v6, σ6, H6, S6, r6, q6⟩ := hsp
        exact end_ S6 fun s7 J7 => ⟨_, _, _, J7, r6, q6⟩
    | false =>
      show wpAny _ X.A (handleBy (.ref a) X.env []) _ _ _
      refine wpAny_handleBy_nil ?_
      obtain ⟨k1, k2, k3, oe, vs4, T, oT, ts', he, hz, hd, h1, hr⟩ := id fl3
      unfold PySem.passOn
      refine wpAny_bind (wpAny_field he hd h1 ?_)
      rw [if_neg (show ¬ ((Value.ref T == Value.none) = true) from by simp)]
      have hcat : lTryA i tab lb ls ρ S = .ok (.ex C fs ρ') S' := by
        rw [hv]
        unfold catchH
        dsimp only
        rw [hb1]
      have fin : wpAny (model X.prog X.w) X.A (setFlight (.ref a) X.env.frame) (fun _ s4 => wpAny (model X.prog X.w) X.A (throw (.ref a) : Sem Flow) (SP X pins D) X.xe s4) X.xe { s' with heap := h3 } := by
        rw [hf]
        refine HandSPX.setFlight_upZ fl3 fun h4 hh4 up4 => wpAny_throw (h.ex C fs ρ' S' hcat _ _ ?_)
        exact ⟨a, B, sI, pins, σ', H', .ref C, some dd, rfl, J, nb, (up.trans up3).trans up4, .inr (.inr (by rw [hs]; exact hh4)), na, os, ag, rfl, dd, vs, m', rfl, hxd, e', x', vfs, er', hl'⟩
      first
        | exact wpAny_bind (wpAny_pure (wpAny_bind fin))
        | exact wpAny_bind fin
  · cases f with
    | next =>
      obtain ⟨σ', H', J', q⟩ := hsp
      exact wpAny_execs_nil ⟨σ', H', J'.ofTry ok, q⟩
    | brk =>
      obtain ⟨σ', H', J', q⟩ := hsp
      exact ⟨σ', H', J'.ofTry ok, q⟩
    | cont =>
      obtain ⟨σ', H', J', q⟩ := hsp
      exact ⟨σ', H', J'.ofTry ok, q⟩
    | ret u =>
      obtain ⟨v, σ', H', J', r, q⟩ := hsp
      exact ⟨v, σ', H', J'.ofTry ok, r, q⟩
end
end MP

/-! raise C(e, ..), C an own class with an __init__ of its own -/
namespace MP
open PySem PySem.Spec PyProof.Rows L2
theorem upd_del {H : Hp} {a dx : Addr} {o u v w : HO} (n : H a = none) (ne : dx ≠ a) : upd (del (upd (upd (upd H a o) dx u) a v) a) dx w = upd H dx w := by
  funext b
  unfold upd del
  by_cases h1 : b = dx
  · rw [if_pos h1, if_pos h1]
  · rw [if_neg h1, if_neg h1]
    by_cases h2 : b = a
    · rw [if_pos h2, h2, n]
    · rw [if_neg h2]
      show (if b = a then some v else if b = dx then some u else if b = a then some o else H b) = H b
      rw [if_neg h2, if_neg h1, if_neg h2]
section
variable {X : Cx} {e : Expr} {es : List Expr} {ta : TA} {p pos : Pos}
/-- L2.pmk_oex with the guards (its lines) -/
theorem pmk_oexG {CX : CXT} {x : Str} {C fI : Addr} {k : Nat} {fd : FuncData} {ps : List Str} {sp : Sp} {ds : List Value} {dvs : List V} (T : OexC X.K C) (iC : PySem.W.findIn X.K (.ref C) "__init__" = some (some (.ref fI))) (tI : PySem.W.typeIn X.K (.ref fI) = some (.type "function"))
    (F1 : MP.FnOk X.prog X.w X.K X.mg X.base CX k fI fd ps sp) (hr : MP.Room (k + 1) X.A) (hb : Binds X.K fd ps ds) (hd : Vals dvs ds) (hx : Passes CX X (fun _ _ _ => False)) (hg : Gl X x) (hm : X.mg x = some (.ref C)) (ha : PA X (e :: es) ta)
    (hdb : (x == ("__debug__" : Str)) = false := by decide) (he : starEach (e :: es) X.env = (false, eval e X.env) :: starEach es X.env := by rfl) (hpl : (backTo pos (starEach es X.env)).any (·.1) = false := by rfl) :
    PMk X (.Call (.Name x p) (e :: es) [] pos) (tMkO C sp dvs ta) := by
  intro pins s σ H Q I h
  obtain ⟨nm, q, N, bs, bm, sn, sub, ab, col, dd, k0, k1, k2, k3, k5, hC, hbm⟩ := T.cls
  refine wpAny_Call_Name_kw (ld_glob I hg hm ?_ hdb)
  refine PySem.W.callWith_K (h₀ := X.base) I.ok.mod.kin T.kC (thn (ha.run pos pins s σ H _ I h) fun us s1 ⟨vs, H1, I1, r1, hz, q1⟩ => ⟨I1.kIn, ?_⟩) he hpl
  show wpAny _ _ (call (.ref C) us) _ _ _
  obtain ⟨hp, g, dr, tk, os⟩ := s1
  have hsz : hp.objs.size ≤ hp.objs.size + 1 := Nat.le_succ _
  have hn : H1 (hp.objs.size + 1) = none := I1.hok.fresh hsz
  have hq := q1 (hp.objs.size + 1) hn
  have kk : ∀ b o, hp.get? b = some o → ((hp.push (PySem.W.kdv_tup us)).push (PySem.HandSPX.excO C hp.objs.size)).get? b = some o := fun b o e => Heap.get?_push_of_some _ (Heap.get?_push_of_some _ e)
  have hget : ((hp.push (PySem.W.kdv_tup us)).push (PySem.HandSPX.excO C hp.objs.size)).get? (hp.objs.size + 1) = some (PySem.HandSPX.excO C hp.objs.size) := by heap_get
  have I2 : Inv X pins σ (upd H1 (hp.objs.size + 1) (exo (hp.objs.size + 1) C none)) ⟨(hp.push (PySem.W.kdv_tup us)).push (PySem.HandSPX.excO C hp.objs.size), g, dr, tk, os⟩ :=
    I1.laid (t' := tk) (a := hp.objs.size + 1) (o := exo (hp.objs.size + 1) C none) (h' := (hp.push (PySem.W.kdv_tup us)).push (PySem.HandSPX.excO C hp.objs.size)) kk hsz (exo_ok hget)
  have r2 : Vals (V.ref (hp.objs.size + 1) :: (vs ++ dvs)) (Value.ref (hp.objs.size + 1) :: (us ++ ds)) := .cons rfl (r1.append hd)
  have hl : (Value.ref (hp.objs.size + 1) :: us ++ ds).length = ps.length := by
    have e := r2.length
    rw [F1.len _ _ _ _ hq] at e
    exact e.symm
  have hus : us.length ≤ sizeLine := by
    rw [← Paired.length r1, sizeLine_eq]
    omega
  refine wpAny_call (PySem.HandSPX.call_own F.excBase_ValueError (fun Y => PySem.HandSPX.refsVE_contains Y bm hbm) (I1.kIn _ _ hC) (PySem.W.looks_findIn I1.kIn iC) (fun self => PySem.W.bind_fn I1.kIn self tI) hus
    (codeAny_mono (F1.run _ X.stack _ _ ⟨Value.ref (hp.objs.size + 1) :: us, []⟩ (Value.ref (hp.objs.size + 1) :: (us ++ ds)) _ _ (fun _ _ _ => False) (hr.make C us []) (I2.env0.make C us []) (hb _ (Value.ref (hp.objs.size + 1) :: us) I2.kIn hl) r2 hq) fun r s' hq' => ?_))
  cases r with
  | error er => exact hx pins σ _ _ er s' I2 hq'
  | ok fl =>
    cases fl with
    | ret u =>
      obtain ⟨v, H2, os2, bare2, un2, hok2, rv, ev, d, fs, ea, ed, hd1, q2⟩ := hq'
      subst ev
      obtain ⟨h2, g2, d2, t2, os'⟩ := s'
      exact ⟨rv, mk_end (raises_own T.exC T.tyC) I1 hsz kk un2 hok2 os2 bare2 ea ed hd1 q2⟩
    | next => exact False.elim hq'
    | brk => exact False.elim hq'
    | cont => exact False.elim hq'
end
section
variable {X : Cx} {e : Expr} {pos pos' p : Pos} {es : List Expr} {t : LA} {x : Str} {k : Nat} {f C : Addr} {fd : FuncData} {ps fs : List Str}
def lRaiseE (C : Addr) (fs : List Str) (t : LA) : LS := fun ρ S => liftX ρ (t ρ S) fun ds S1 => if ds.length = fs.length then .ok (.ex C (fs.zip ds).reverse ρ) S1 else .bad
theorem psl_raiseE (hc : X.calm = true) (M : MkE X.K C f fs) (Fn : FnE X.prog X.w X.K X.mg X.base k f fd ps fs) (hr : Room (k + 1) X.A) (hg : Gl X x) (hm : X.mg x = some (.ref C)) (hb : Binds X.K fd ps [])
    (ha : PAL X (e :: es) t) (hdb : (x == ("__debug__" : Str)) = false := by decide) (he : starEach (e :: es) X.env = (false, eval e X.env) :: starEach es X.env := by rfl) (hpl : (backTo pos (starEach es X.env)).any (·.1) = false := by rfl) (hz : fs.length ≤ 900 := by decide) :
    PSL X (.Raise (some (.Call (.Name x p) (e :: es) [] pos)) none pos') (lRaiseE C fs t) := by
  refine ⟨fun pins s σ H D I ⟨m, ρ, S, x0, er, hl, h⟩ => ?_⟩
  have hp : Hope X σ m H (t ρ S) := HS.hope h er hl x0
  refine (ps_raise (W := fun cls d σ' H' => ∃ ds S1, t ρ S = .ok ds S1 ∧ ds.length = fs.length ∧ WS X.K m H C (fs.zip ds).reverse ρ S1 cls d σ' H') hc (fun u s' z => ?_)
    (pmk_oexG M.T M.i M.t Fn hr hb .nil passL hg hm ha.pa hdb he hpl)).run pins s σ H D I ⟨m, ρ, S, x0, er, hp, fun ds S1 q vs H1 m1 e1 x1 w1 => ?_⟩
  · obtain ⟨_, _, _, _, _, _, _, _, _, _, _, _, _, _, _, _, ds, S1, q, hd, _⟩ := id z
    have hv : lRaiseE C fs t ρ S = .ok (.ex C (fs.zip ds).reverse ρ) S1 := by unfold lRaiseE; rw [q]; show (if ds.length = fs.length then _ else _) = _; rw [if_pos hd]
    refine h.ex C _ ρ S1 hv u s' (XE.imp z fun cls d σ' H' w => ?_)
    obtain ⟨ds2, S2, q2, _, w⟩ := w
    rw [q] at q2
    cases q2
    exact w
  · have hd : ds.length = fs.length := by
      obtain ⟨fl, S', z⟩ := h.ok
      unfold lRaiseE at z
      rw [q] at z
      by_cases hd : ds.length = fs.length
      · exact hd
      · rw [show liftX ρ (R.ok ds S1) (fun ds S1 => if ds.length = fs.length then (R.ok (.ex C (fs.zip ds).reverse ρ) S1 : R Fl) else .bad) = (if ds.length = fs.length then (R.ok (.ex C (fs.zip ds).reverse ρ) S1 : R Fl) else .bad) from rfl, if_neg hd] at z
        cases z
    have l1 : vs.length = fs.length := by rw [w1.length]; exact hd
    refine ⟨by omega, fun a na => ?_⟩
    rw [List.append_nil]
    refine ⟨a, C, vs, rfl, l1, M.T, M.no, upd_same, fun dx n ne => ?_⟩
    rw [upd_ne ne] at n
    refine ⟨rfl, dx, (fs.zip vs).reverse, upd_same, by rw [upd_ne ne, upd_same], n, ds, S1, q, hd, ?_⟩
    rw [upd_del na ne]
    have E1 : Ext m1 H1 m1 (upd H1 dx (.xd (fs.zip vs).reverse)) := Ext.fresh n
    exact ⟨rfl, dx, (fs.zip vs).reverse, m1, rfl, upd_same, e1.trans E1, x1.fresh n, vfs_rev (vfs_zip (w1.ext E1 x1.muts)), er.ext (e1.trans E1) x0.muts, hl⟩
end
end MP

/-! the end of a walk with the guards: the lines of L2.law_call and L2.walk_ofB over MP.FnOk -/
namespace MP
open PySem PySem.Spec PyProof.Rows L2
theorem law_callG {P : Program} {w : World} {K : PySem.W.Frag} {mg mb : Str → Option Value} {CX : CXT} {k : Nat} {fa a : Addr} {fd : FuncData} {x : Str} {sp : Sp} {s₁ : Shared} {vs : List Value} {ns : List Int}
    (KX : K.In s₁.heap) (hns : s₁.heap.Ns mainGlobals mg) (hb : s₁.heap.Ns builtinsNs mb) (hbb : ∀ x : Str, x ≠ "__name__" → mb x = bootBuiltins x) (hlim : s₁.heap.NoLimit) (hg : s₁.gens = #[])
    (ha : s₁.heap.get? a = some { cls := .type "list", data := .seq vs.toArray }) (hi : IntsAre vs ns) (hl : ns.length ≤ sizeLine) (hr : MP.Room k callerA)
    (F : ∀ base : Heap, K.In base → base.Ns mainGlobals mg → MP.FnOk P w K mg base CX k fa fd [x] sp) (hbind : ∀ (s : Shared) (u : Value), BindsTo s fd ⟨[u], []⟩ [(x, u)])
    (hsp : ∀ H : Hp, Only H → SqL K H a (ns.map V.int) → sp [.ref a] H (fun v _ => v = .bl true) fun _ _ _ => False)
    (hCX : ∀ H e s', CX [] H s₁ (fun _ _ _ => False) e s' → False) :
    codeAny (model P w) callerA (.call (.ref fa) ⟨[.ref a], []⟩) (fun r s' => r = .ok (.ret (.bool true)) ∧ OldK s₁.heap s'.heap ∧ s'.os = s₁.os ∧ AllBare s'.gens) s₁ := by
  have rv := vals_ints hi
  have lenV := hi.length
  -- from an abstract heap in which nothing but the script may be tracked
  have core : ∀ H : Hp, Only H → SqL K H a (ns.map V.int) → HOk P w H s₁.heap → (∀ b, H b ≠ none → b = a) → (H a ≠ none → K.lookup a = none) →
      codeAny (model P w) callerA (.call (.ref fa) ⟨[.ref a], []⟩) (fun r s' => r = .ok (.ret (.bool true)) ∧ OldK s₁.heap s'.heap ∧ s'.os = s₁.os ∧ AllBare s'.gens) s₁ := by
    intro H hO hS hok hA hK
    have base_of : ∀ {b : Addr} {o : Obj}, s₁.heap.get? b = some o → H b = none → (hidT s₁.heap H).get? b = some o := fun e n => hidT_get e n
    have noA : ∀ {b : Addr} {o : Obj} {es : Array DictEntry} {ep : Nat}, s₁.heap.get? b = some o → o.data = .dict es ep → H b = none := fun {b o es ep} e d => by
      cases q : H b with
      | none => rfl
      | some u =>
        have e' : b = a := hA b (by rw [q]; simp)
        subst e'
        rw [ha] at e; cases e
        have d' : Data.seq vs.toArray _ = Data.dict es ep := d
        cases d'
    have nsK : ∀ {b : Addr} {m : Str → Option Value}, s₁.heap.Ns b m → (hidT s₁.heap H).Ns b m := fun {b m} ⟨o, es, ep, e, d, r⟩ => ⟨o, es, ep, base_of e (noA e d), d, r⟩
    have hKb : K.In (hidT s₁.heap H) := fun b o e => base_of (KX b o e) (by
      cases q : H b with
      | none => rfl
      | some u =>
        have e' : b = a := hA b (by rw [q]; simp)
        subst e'
        rw [hK (by rw [q]; simp)] at e; cases e)
    have hM : Mod K mg (hidT s₁.heap H) := ⟨hKb, nsK hns, ⟨mb, nsK hb, hbb⟩, let ⟨mc, h1, h2⟩ := hlim; ⟨mc, nsK h1, h2⟩⟩
    have e0 : Env0 P w K mg (hidT s₁.heap H) callerA [] s₁ H := ⟨rfl, hM, fun b o e => of_hidT e, Nat.le_of_eq (hidT_size _ _), trivial, fun b hb => absurd (show b ∈ ([] : List Addr) from hb) (by simp), hok, .of_eq hg⟩
    refine codeAny_mono ((F _ hKb (nsK hns)).run callerA [] s₁ H ⟨[.ref a], []⟩ [.ref a] [.ref a] _ _ hr e0 (hbind s₁ (.ref a)) (.cons rfl .nil) (hsp H hO hS)) fun r s' h => ?_
    cases r with
    | error e => exact (hCX H e s' h).elim
    | ok fl =>
      cases fl with
      | next => exact False.elim h
      | brk => exact False.elim h
      | cont => exact False.elim h
      | ret u =>
        obtain ⟨v, H', os, bare, un, hok', r', q⟩ := h
        have q' : v = .bl true := q
        subst q'
        obtain rfl : u = Value.bool true := r'
        refine ⟨rfl, OldK.of_keep fun b o e => ?_, os, bare⟩
        cases q : H b with
        | none => exact un.keep b o e q (by intro z; exact absurd (show b ∈ ([] : List Addr) from z) (by simp)) (by simp)
        | some u =>
          rcases hO b with z | ⟨ob, xs, z⟩
          · rw [q] at z; cases z
          · have z2 := un.frzs b ob _ z
            obtain ⟨e1, _⟩ := hok b _ z
            obtain ⟨e2, _⟩ := hok' b _ z2
            rw [e] at e1; cases e1
            exact e2
  cases hk : K.lookup a with
  | some o =>
    -- the script is one of the module's own objects
    have e := KX a o hk
    rw [ha] at e
    cases e
    refine core (fun _ => none) (fun _ => .inl rfl) (.inr ⟨_, vs.toArray, _, hk, rfl, rfl, rfl, by rw [List.size_toArray, lenV]; exact hl, by simpa using rv⟩) (fun b u z => by have z' : (none : Option HO) = some u := z; cases z') (fun b z => absurd rfl z) fun z => absurd rfl z
  | none =>
    refine core (fun b => if b = a then some (.frz { cls := .type "list", data := .seq vs.toArray } (.lst (ns.map V.int))) else none) (fun b => ?_) (.inl (.inr ⟨{ cls := .type "list", data := .seq vs.toArray }, if_pos rfl⟩)) (fun b u z => ?_) (fun b z => ?_) fun _ => hk
    · by_cases hb : b = a
      · exact .inr ⟨_, _, if_pos hb⟩
      · exact .inl (if_neg hb)
    · by_cases hb : b = a
      · have z' := (if_pos hb).symm.trans z
        cases z'
        subst hb
        exact ⟨ha, by rw [List.length_map]; exact hl, vs, _, rv, ha⟩
      · have z' := (if_neg hb).symm.trans z
        cases z'
    · by_cases hb : b = a
      · exact hb
      · exact absurd (if_neg hb) z
theorem walk_ofG {l : PySem.W.OpenLaw} {n k : Nat} {q : Program} {loose : List Str} {XP : (Str → Option Value) → Heap → Prop} {YP : World → Heap → Prop} {d : DefRec} {K : Params → PySem.W.Frag} {CX : World → CXT} {sp : World → Sp} {x : Str}
    (hn : l.most = some n) (hn2 : n ≤ sizeLine) (hdf : d.params.defaults = []) (hr : MP.Room k callerA)
    (hY : ∀ (w : World) (h : Heap), YP w h → (K w.params).In h)
    (F : ∀ (w : World) (mg : Str → Option Value) (fa : Addr) (h : Heap), (K w.params).In h → h.Ns mainGlobals mg → mg d.name = some (.ref fa) →
      ∃ fd : FuncData, (∀ (s : Shared) (u : Value), BindsTo s fd ⟨[u], []⟩ [(x, u)]) ∧
        ∀ base : Heap, (K w.params).In base → base.Ns mainGlobals mg → MP.FnOk l.prog w (K w.params) mg base (CX w) k fa fd [x] (sp w))
    (hsp : ∀ (w : World) (H : Hp) (a : Addr) (ns : List Int), ns.length ≤ n → (∀ z ∈ ns, Builtin.Int.intBits z ≤ 1048576) → Only H → SqL (K w.params) H a (ns.map V.int) → sp w [.ref a] H (fun v _ => v = .bl true) fun _ _ _ => False)
    (hCX : ∀ (w : World) (H : Hp) (s : Shared) (e : Value) (s' : Shared), CX w [] H s (fun _ _ _ => False) e s' → False) :
    PySem.W.WalkO q loose XP YP l.row.toRowW d [] (fun f vs => PySem.call f vs) := by
  refine Att.attach_callB hn hdf fun w s₀ s₁ mg mb fa o pm cd doc a vs ns G Y ho hd hcd hmg hobj hints hlen hbits hg => ?_
  have KX := hY w _ Y
  obtain ⟨fd, hb, hF⟩ := F w mg fa _ KX G.T.g hmg
  exact law_callG KX G.T.g G.T.b G.T.builtins G.T.nolimit hg hobj hints (Nat.le_trans hlen hn2) hr hF hb (fun H hO hS => hsp w H a ns hlen hbits hO hS) fun H e s' => hCX w H s₁ e s'
theorem room_caller {k : Nat} (h : L2.Room k callerA) : MP.Room k callerA := ⟨h, rfl⟩
end MP

namespace MP
open PySem PySem.Spec PyProof.Rows L2
/-- a short text times a small int -/
def strRep (x : Str) (n : Int) : Str := if n < 1 then Str.empty else if (n == 1 || x.length == 0) = true then x else ⟨(List.replicate n.toNat x.cps).foldl (· ++ ·) #[]⟩
def gMulS : G2 := fun S dx dy => match vw S dx, vw S dy with
  | .str x, .int n => if 0 ≤ n ∧ n ≤ 1000 ∧ x.length ≤ 1000 ∧ (strRep x n).length ≤ sizeLine then some (.str (strRep x n)) else none
  | _, _ => none
theorem opl_mulS {X : Cx} : OpL X (binaryOp .Mult) gMulS := ⟨fun pins s σ H m S x y dx dy d v u I q rx ry rv ru e => by
  unfold gMulS at e
  split at e
  · rename_i a n e1 e2
    split at e
    · rename_i hz
      obtain ⟨h0, h1, h2, h3⟩ := hz
      cases e
      have ea := vw_str rx e1
      have eb := vw_int ry e2
      subst ea
      subst eb
      obtain ⟨t, rfl⟩ := rv
      obtain ⟨t2, rfl⟩ := ru
      have hsz : (sizeLine : Nat) ≥ 1000000 := by rw [sizeLine_eq]; omega
      refine PySem.P.mul_str ?_ (fun a1 a2 => ?_) (fun a1 a2 => ?_) ?_
      · rw [decide_eq_false (by omega), decide_eq_false (by omega)]; rfl
      · have : (2 ^ 63 - 1) / n ≥ (2 ^ 63 - 1) / 1000 := by
          have hn : 0 < n := by omega
          rw [ge_iff_le, Int.le_ediv_iff_mul_le hn]
          have : (2 ^ 63 - 1 : Int) / 1000 * n ≤ (2 ^ 63 - 1 : Int) / 1000 * 1000 := Int.mul_le_mul_of_nonneg_left h1 (by decide)
          have z : (2 ^ 63 - 1 : Int) / 1000 * 1000 ≤ 2 ^ 63 - 1 := by decide
          omega
        have z : (2 ^ 63 - 1 : Int) / 1000 ≥ 1000 := by decide
        omega
      · unfold Builtin.Str.tooLong
        refine decide_eq_false ?_
        have : a.length * n.toNat ≤ 1000 * 1000 := Nat.mul_le_mul h2 (by omega)
        omega
      · unfold strRep at h3 ⊢
        by_cases c1 : n < 1
        · rw [if_pos c1] at h3 ⊢
          rw [if_pos c1]
          exact ⟨h3, .str _, H, m, I.tok _, ⟨_, rfl⟩, Ext.refl, q, .str _⟩
        · rw [if_neg c1] at h3 ⊢
          rw [if_neg c1]
          by_cases c2 : (n == 1 || a.length == 0) = true
          · rw [if_pos c2] at h3 ⊢
            rw [if_pos c2]
            exact ⟨.str _, H, m, I, ⟨_, rfl⟩, Ext.refl, q, .str _⟩
          · rw [if_neg c2] at h3 ⊢
            rw [if_neg c2]
            exact ⟨h3, .str _, H, m, I.tok _, ⟨_, rfl⟩, Ext.refl, q, .str _⟩
    · cases e
  · cases e⟩
end MP

/-! repr of deep data, an empty dict in it too (the road of ReprK.of_reads) -/
namespace MP
open PySem PySem.Spec PyProof.Rows L2
mutual
def toPE : D → Option PyData
  | .non => some .none
  | .bl b => some (.bool b)
  | .int i => some (.int i)
  | .str s => some (.str s)
  | .tup xs => (toPEs xs).map .tuple
  | .lst xs => (toPEs xs).map .list
  | .dct _ [] => some (.dict [])
  | _ => none
def toPEs : List D → Option (List PyData)
  | [] => some []
  | x :: xs => (toPE x).bind fun a => (toPEs xs).map fun b => a :: b
end
mutual
inductive De (K : PySem.W.Frag) (H : Hp) : V → PyData → Prop
  | non : De K H .non .none
  | bl (b : Bool) : De K H (.bl b) (.bool b)
  | int (i : Int) : De K H (.int i) (.int i)
  | str (x : Str) : De K H (.str x) (.str x)
  | lst {a : Addr} {xs : List V} {ds : List PyData} : SqL K H a xs → DeAll K H xs ds → De K H (.ref a) (.list ds)
  | tup {a : Addr} {xs : List V} {ds : List PyData} : SqT K H a xs → DeAll K H xs ds → De K H (.ref a) (.tuple ds)
  | dk {a : Addr} : H a = some (.dK []) → De K H (.ref a) (.dict [])
  | dt {a : Addr} : H a = some (.dT []) → De K H (.ref a) (.dict [])
inductive DeAll (K : PySem.W.Frag) (H : Hp) : List V → List PyData → Prop
  | nil : DeAll K H [] []
  | cons {v : V} {vs : List V} {d : PyData} {ds : List PyData} : De K H v d → DeAll K H vs ds → DeAll K H (v :: vs) (d :: ds)
end
section
variable {K : PySem.W.Frag} {m : List Addr} {H : Hp}
mutual
theorem VR.de {v : V} {d : D} {p : PyData} : VR K m H v d → toPE d = some p → De K H v p
  | .non, e => by simp only [toPE] at e; cases e; exact .non
  | .bl b, e => by simp only [toPE] at e; cases e; exact .bl b
  | .int b, e => by simp only [toPE] at e; cases e; exact .int b
  | .str b, e => by simp only [toPE] at e; cases e; exact .str b
  | @VR.tup _ _ _ a vs ds h r, e => by
    simp only [toPE] at e
    cases q : toPEs ds with
    | none => rw [q] at e; cases e
    | some ps => rw [q] at e; cases e; exact .tup (SqT.of h) (r.des q)
  | @VR.lst _ _ _ a vs ds n h r, e => by
    simp only [toPE] at e
    cases q : toPEs ds with
    | none => rw [q] at e; cases e
    | some ps => rw [q] at e; cases e; exact .lst (.inl h) (r.des q)
  | @VR.lstK _ _ _ a vs ds o its n hk h1 h2 h3 h4 h5 r, e => by
    simp only [toPE] at e
    cases q : toPEs ds with
    | none => rw [q] at e; cases e
    | some ps => rw [q] at e; cases e; exact .lst (.inr ⟨o, its, n, hk, h1, h2, h3, h4, h5⟩) (r.des q)
  | .dct n h r, e => by
    cases r with
    | nil => simp only [toPE] at e; cases e; exact .dk h
    | cons _ _ => simp only [toPE] at e; cases e
  | .dctT n h r, e => by
    cases r with
    | nil => simp only [toPE] at e; cases e; exact .dt h
    | cons _ _ => simp only [toPE] at e; cases e
  | .obj _ _ _, e => by simp only [toPE] at e; cases e
  | .exn0 _ _, e => by simp only [toPE] at e; cases e
  | .exnD _ _ _ _ _, e => by simp only [toPE] at e; cases e
  | .ref _, e => by simp only [toPE] at e; cases e
theorem VRs.des {v : List V} {d : List D} {p : List PyData} : VRs K m H v d → toPEs d = some p → DeAll K H v p
  | .nil, e => by simp only [toPEs] at e; cases e; exact .nil
  | @VRs.cons _ _ _ v d vs ds h r, e => by
    simp only [toPEs] at e
    cases q : toPE d with
    | none => rw [q] at e; cases e
    | some a =>
      rw [q] at e
      cases q2 : toPEs ds with
      | none => rw [q2] at e; cases e
      | some b => rw [q2] at e; cases e; exact .cons (h.de q) (r.des q2)
end
end
section
variable {X : Cx} {pins : List (Addr × Obj)} {σ : L2.St} {H : Hp} {s : Shared} {prog : Program} {w : World}
theorem de_dict (I : Inv X pins σ H s) {a : Addr} (h : H a = some (.dK []) ∨ H a = some (.dT [])) : (a == sysModules) = false ∧ ∃ o n, s.heap.get? a = some o ∧ o.cls = .type "dict" ∧ o.data = .dict #[] n := by
  rcases h with h | h
  · obtain ⟨_, hs, vs, r, o, es, ep, e1, e2, e3, e4, e5, _⟩ := (show ObjOk X.prog X.w H s.heap a (.dK []) from I.hok a _ h)
    cases r
    obtain ⟨l⟩ := es
    have : l = [] := by cases e5; rfl
    subst this
    exact ⟨hs, o, ep, e1, e2.1, e3⟩
  · obtain ⟨_, hs, xs, r, o, es, ep, e1, e2, e3, e4, _⟩ := (show ObjOk X.prog X.w H s.heap a (.dT []) from I.hok a _ h)
    cases r
    obtain ⟨l⟩ := es
    have : l = [] := by simpa using e4
    subst this
    exact ⟨hs, o, ep, e1, e2.1, e3⟩
mutual
theorem De.reprK (I : Inv X pins σ H s) : ∀ (d : PyData) (v : V) (u : Value), De X.K H v d → RelV v u → d.showable = true → d.shown.length ≤ sizeLine → ∃ as bs, Reads s.heap u d as ∧ ReadAtMost s.heap d.depth bs ∧ ReprK prog w bs s.heap d.depth u d.shown
  | .none, _, _, h, r, _, _ => by
    cases h
    cases r
    exact ⟨_, [], Reads.none, (fun _ h => nomatch h), by simp only [PyData.shown]; exact .of_is ReprIs.none _ _ _⟩
  | .bool b, _, _, h, r, _, _ => by
    cases h
    cases r
    exact ⟨_, [], Reads.bool b, (fun _ h => nomatch h), by simp only [PyData.shown]; exact .of_is (ReprIs.bool b) _ _ _⟩
  | .int i, _, _, h, r, hs, _ => by
    cases h
    obtain ⟨t, rfl⟩ := r
    exact ⟨_, [], Reads.int i t, (fun _ h => nomatch h), by simp only [PyData.shown]; exact .of_is (ReprIs.int t (by simpa [PyData.showable] using hs)) _ _ _⟩
  | .str x, _, _, h, r, _, hz => by
    cases h
    obtain ⟨t, rfl⟩ := r
    exact ⟨_, [], Reads.str x t, (fun _ h => nomatch h), by simp only [PyData.shown]; exact .of_is (ReprIs.str x t (by simpa only [PyData.shown] using hz)) _ _ _⟩
  | .list ds, _, _, h, r, hs, hz => by
    have hz' : (listText (PyData.shownAll ds)).length ≤ sizeLine := by simpa only [PyData.shown] using hz
    cases h with
    | @lst a _ _ hq ha =>
      cases r
      obtain ⟨its, rv, ⟨o, n, h1, h2, _, h3⟩, _⟩ := I.list hq
      obtain ⟨as, bs, hr, hb, hk⟩ := De.reprAllK I ds _ its ha rv (by simpa [PyData.showable] using hs) (fun t ht => Nat.le_trans (listText_mem_le ht) hz')
      have r : Reads s.heap (.ref a) (.list ds) _ := .list h1 h2 h3 hr
      have hna : a ∉ bs := not_mem_of_deeper r (by simp only [PyData.depth]; omega) hb
      refine ⟨_, a :: bs, r, ReadAtMost.cons r (by simp only [PyData.depth]; omega) hb, ?_⟩
      simp only [PyData.depth, PyData.shown]
      cases its with
      | nil =>
        have h4' : ReadsAll s.heap [] ds _ := hr
        cases h4'
        simp only [PyData.shownAll, listText_nil]
        exact ReprK.listEmpty h1 h2 h3
      | cons x l => exact ReprK.list h1 h2 h3 hna (by simpa using hk.length_eq) (fun i y e => hk.item i y (by simpa using e))
  | .tuple ds, _, _, h, r, hs, hz => by
    have hz' : (tupleText (PyData.shownAll ds)).length ≤ sizeLine := by simpa only [PyData.shown] using hz
    cases h with
    | @tup a _ _ hq ha =>
      cases r
      obtain ⟨its, rv, ⟨o, h1, h2, n, h3⟩, _⟩ := I.tuple hq
      obtain ⟨as, bs, hr, hb, hk⟩ := De.reprAllK I ds _ its ha rv (by simpa [PyData.showable] using hs) (fun t ht => Nat.le_trans (tupleText_mem_le ht) hz')
      have r : Reads s.heap (.ref a) (.tuple ds) _ := .tuple h1 h2 h3 hr
      have hna : a ∉ bs := not_mem_of_deeper r (by simp only [PyData.depth]; omega) hb
      refine ⟨_, a :: bs, r, ReadAtMost.cons r (by simp only [PyData.depth]; omega) hb, ?_⟩
      simp only [PyData.depth, PyData.shown]
      exact ReprK.tuple h1 h2 h3 hna hk
  | .dict kvs, _, _, h, r, hs, hz => by
    have key : ∀ {a : Addr} {u : Value}, RelV (.ref a) u → kvs = [] → (H a = some (.dK []) ∨ H a = some (.dT [])) → ∃ as bs, Reads s.heap u (.dict kvs) as ∧ ReadAtMost s.heap (PyData.depth (.dict kvs)) bs ∧ ReprK prog w bs s.heap (PyData.depth (.dict kvs)) u (PyData.shown (.dict kvs)) := by
      intro a u r e hh
      subst e
      cases r
      obtain ⟨hsys, o, n, h1, h2, h3⟩ := de_dict I hh
      have r : Reads s.heap (.ref a) (.dict []) _ := .dict h1 h2 h3 .nil .nil
      refine ⟨_, [a], r, ReadAtMost.cons r (n := 0) (Nat.zero_le _) (fun _ h => nomatch h), ?_⟩
      simp only [PyData.depth, PyData.shown]
      exact ReprK.dict h1 h2 h3 hsys (by simp) .nil
    cases h with
    | dk hh => exact key r rfl (.inl hh)
    | dt hh => exact key r rfl (.inr hh)
theorem De.reprAllK (I : Inv X pins σ H s) : ∀ (ds : List PyData) (vs : List V) (us : List Value), DeAll X.K H vs ds → Vals vs us → PyData.showableAll ds = true → (∀ t ∈ PyData.shownAll ds, t.length ≤ sizeLine) →
    ∃ as bs, ReadsAll s.heap us ds as ∧ ReadAtMost s.heap (PyData.depthAll ds) bs ∧ ReprAllK prog w bs s.heap (PyData.depthAll ds) us (PyData.shownAll ds)
  | [], _, _, h, r, _, _ => by
    cases h
    cases r
    exact ⟨_, [], ReadsAll.nil, (fun _ h => nomatch h), by simp only [PyData.shownAll]; exact .nil⟩
  | d :: ds, _, _, h, r, hs, hz => by
    have hs' : d.showable = true ∧ PyData.showableAll ds = true := by simpa [PyData.showableAll] using hs
    cases h with
    | cons h1 h2 =>
      cases r with
      | cons r1 r2 =>
        obtain ⟨as1, b1, q1, hb1, k1⟩ := De.reprK I d _ _ h1 r1 hs'.1 (hz _ (by simp only [PyData.shownAll]; exact List.mem_cons_self ..))
        obtain ⟨as2, b2, q2, hb2, k2⟩ := De.reprAllK I ds _ _ h2 r2 hs'.2 (fun t ht => hz t (by simp only [PyData.shownAll]; exact List.mem_cons_of_mem _ ht))
        refine ⟨_, b1 ++ b2, ReadsAll.cons q1 q2, ?_, ?_⟩
        · intro b hm
          simp only [PyData.depthAll]
          rcases List.mem_append.mp hm with hm | hm
          · obtain ⟨d', as', r', hd'⟩ := hb1 b hm
            exact ⟨d', as', r', Nat.le_trans hd' (Nat.le_max_left _ _)⟩
          · obtain ⟨d', as', r', hd'⟩ := hb2 b hm
            exact ⟨d', as', r', Nat.le_trans hd' (Nat.le_max_right _ _)⟩
        · simp only [PyData.depthAll, PyData.shownAll]
          exact .cons ((k1.more fun b hb => List.mem_append_left _ hb).level_le (Nat.le_max_left _ _)) (k2.more_le (fun b hb => List.mem_append_right _ hb) (Nat.le_max_right _ _))
end
end
end MP

/-! repr(d) of deep data; list(..) put into the store; list + list -/
namespace MP
open PySem PySem.Spec PyProof.Rows L2
section
variable {X : Cx} {pins : List (Addr × Obj)} {σ : L2.St} {H : Hp} {s : Shared}
theorem showsBy_of_de (I : Inv X pins σ H s) {a : Addr} {d : PyData} (h : De X.K H (.ref a) d) (hs : d.showable = true) (hsz : d.shown.length ≤ sizeLine) : ∃ T idr, ShowsBy X.prog X.w s.heap a d T idr := by
  have dk : ∀ {a : Addr}, (H a = some (.dK []) ∨ H a = some (.dT [])) → ∃ T idr, ShowsBy X.prog X.w s.heap a (.dict []) T idr := by
    intro a hh
    obtain ⟨hsys, o, n, h1, h2, h3⟩ := de_dict I hh
    have hz' : (dictText []).length ≤ sizeLine := by rw [sizeLine_eq]; decide
    refine ⟨"dict", "dict.__repr__", F.slot_dict_repr, F.slot_dict_str, F.slot_dict_format, fun s' hk0 => ⟨o, hk0 _ _ h1, h2⟩, fun A E s' Q hg hu hk0 hQ => ?_⟩
    simp only [PyData.depth] at hu
    simp only [PyData.shown, PyData.shownKv_eq] at hQ
    exact call_dict_reprK (as := []) h1 h2 h3 hsys (by simp) .nil hg (fun b _ => Clear.nil b) hu hk0 hQ hz'
  cases h with
  | @lst a _ ds hq ha =>
    have hz' : (listText (PyData.shownAll ds)).length ≤ sizeLine := by simpa only [PyData.shown] using hsz
    obtain ⟨its, rv, ⟨o, n, h1, h2, _, h3⟩, _⟩ := I.list hq
    obtain ⟨as, bs, hr, hb, hk⟩ := De.reprAllK (prog := X.prog) (w := X.w) I ds _ its ha rv (by simpa [PyData.showable] using hs) (fun t ht => Nat.le_trans (listText_mem_le ht) hz')
    have r : Reads s.heap (.ref a) (.list ds) _ := .list h1 h2 h3 hr
    have hna : a ∉ bs := not_mem_of_deeper r (by simp only [PyData.depth]; omega) hb
    refine ⟨"list", "list.__repr__", F.slot_list_repr.toG, F.slot_list_str, F.slot_list_format, fun s' hk0 => ⟨o, hk0 _ _ h1, h2⟩, fun A E s' Q hg hu hk0 hQ => ?_⟩
    simp only [PyData.depth] at hu
    simp only [PyData.shown] at hQ
    cases its with
    | nil =>
      have h4' : ReadsAll s.heap [] ds _ := hr
      cases h4'
      simp only [PyData.shownAll, listText_nil] at hQ
      exact call_list_repr_empty ⟨o, hk0 _ _ h1, h2⟩ (hk0 _ _ h1) h3 (hQ s'.heap _ _ fun _ _ e => e)
    | cons x l =>
      exact call_list_reprK h1 h2 h3 hna (by simpa using hk.length_eq) (fun i y e => hk.item i y (by simpa using e)) hg (fun b _ => Clear.nil b) hu hk0 hQ hz'
  | @tup a _ ds hq ha =>
    have hz' : (tupleText (PyData.shownAll ds)).length ≤ sizeLine := by simpa only [PyData.shown] using hsz
    obtain ⟨its, rv, ⟨o, h1, h2, n, h3⟩, _⟩ := I.tuple hq
    obtain ⟨as, bs, hr, hb, hk⟩ := De.reprAllK (prog := X.prog) (w := X.w) I ds _ its ha rv (by simpa [PyData.showable] using hs) (fun t ht => Nat.le_trans (tupleText_mem_le ht) hz')
    have r : Reads s.heap (.ref a) (.tuple ds) _ := .tuple h1 h2 h3 hr
    have hna : a ∉ bs := not_mem_of_deeper r (by simp only [PyData.depth]; omega) hb
    refine ⟨"tuple", "tuple.__repr__", F.slot_tuple_repr, F.slot_tuple_str, F.slot_tuple_format, fun s' hk0 => ⟨o, hk0 _ _ h1, h2⟩, fun A E s' Q hg hu hk0 hQ => ?_⟩
    simp only [PyData.depth] at hu
    simp only [PyData.shown] at hQ
    exact call_tuple_reprK h1 h2 h3 hna hk hg (fun b _ => Clear.nil b) hu hk0 hQ hz'
  | dk hh => exact dk (.inl hh)
  | dt hh => exact dk (.inr hh)
end
def gReprD : GC := fun S ds => match ds with
  | [d] => match toPE d with
    | some p => if p.showable = true ∧ p.shown.length ≤ sizeLine ∧ p.depth ≤ 40 then some (.str p.shown) else none
    | none => none
  | _ => none
theorem cl_reprD {X : Cx} (hg : X.A.guards = some []) (hu : X.A.units + 64 < cLine) : CallL X (.builtin "repr") gReprD := ⟨fun pins s σ H m S xs ds d us I q r rv e => by
  unfold gReprD at e
  split at e
  · rename_i d0
    split at e
    · rename_i p hp
      split at e
      · rename_i hz
        obtain ⟨hs, hsz, hd⟩ := hz
        cases e
        obtain ⟨v, rfl, w⟩ := r.one
        have de := w.de hp
        obtain ⟨u, rfl, ru⟩ := vals1 rv
        have fin : ∀ (h' : Heap) (u' tk : Nat), (∀ b o, s.heap.get? b = some o → h'.get? b = some o) → VP X pins σ m H (.str p.shown) S (.str p.shown u') { s with heap := h', toks := tk } :=
          fun h' u' tk hk => ⟨.str p.shown, H, m, I.kept (t' := tk) hk, ⟨u', rfl⟩, Ext.refl, q, .str _⟩
        have byRef : ∀ (a : Addr), De X.K H (.ref a) p → u = .ref a → wpAny (model X.prog X.w) X.A (call (.builtin "repr") [u]) (VP X pins σ m H (.str p.shown) S) X.xe s := by
          intro a ha eu
          subst eu
          obtain ⟨T, idr, SB⟩ := showsBy_of_de I ha hs hsz
          exact call_repr_slot (by omega) (SB.typeIs s fun _ _ e => e) SB.slotRepr (SB.call X.A.in1 X.xe s _ hg (by show X.A.units + 1 + p.depth < cLine; omega) (fun _ _ e => e) fun h' u tk hk => ⟨_, _, rfl, fin h' u tk hk⟩)
        cases de with
        | non => cases ru; exact PySem.P.repr_of_none (fin s.heap _ _ fun _ _ e => e)
        | bl b => cases ru; exact PySem.P.repr_of_bool (fin s.heap _ _ fun _ _ e => e)
        | int i =>
          obtain ⟨t, rfl⟩ := ru
          exact PySem.P.repr_of_int (by simpa [PyData.showable] using hs) (fin s.heap _ _ fun _ _ e => e)
        | str x =>
          obtain ⟨t, rfl⟩ := ru
          exact PySem.P.repr_of_str (fin s.heap _ _ fun _ _ e => e) (by simpa only [PyData.shown] using hsz)
        | lst a1 a2 => exact byRef _ (.lst a1 a2) ru
        | tup a1 a2 => exact byRef _ (.tup a1 a2) ru
        | dk a1 => exact byRef _ (.dk a1) ru
        | dt a1 => exact byRef _ (.dt a1) ru
      · cases e
    · cases e
  · cases e⟩
/-! ### list(..) put into the store -/
def gItems (S : Sto) (ds : List D) : Option (List D) := match ds with
  | [d] => match vw S d with
    | .lst xs => some xs
    | .tup xs => some xs
    | _ => none
  | _ => none
def lListN (t : LA) : LE := fun ρ S => (t ρ S).bind fun ds S1 => match gItems S1 ds with
  | some ys => .ok (.ref S1.length) (S1 ++ [.lst ys])
  | none => .bad
theorem pel_listN {X : Cx} {x : Str} {e : Expr} {es : List Expr} {t : LA} {p pos : Pos} (hg : Gl X x) (hm : X.mg x = none) (hv : bootBuiltins x = some (.type "list")) (ha : PAL X (e :: es) t) (hn : x ≠ "__name__" := by decide) (hdb : (x == ("__debug__" : Str)) = false := by decide)
    (he : starEach (e :: es) X.env = (false, eval e X.env) :: starEach es X.env := by rfl) (hpl : (backTo pos (starEach es X.env)).any (·.1) = false := by rfl) : PEL X (.Call (.Name x p) (e :: es) [] pos) (lListN t) := by
  refine ⟨fun pins s σ H m ρ S I x r hp => ?_⟩
  refine wpAny_Call_Name_kw (ld_blt I hg hm hv ?_ hn hdb)
  refine PyProof.Rows.callWith_type1 (run_seqA ha I x r hp fun ds S1 q1 vs us s1 H1 m1 I1 rv e1 x1 w1 r1 hp1 => ?_) he hpl
  cases qi : gItems S1 ds with
  | none => rw [qi] at hp1; exact absurd rfl hp1.1
  | some ys =>
    have e0 : lListN t ρ S = .ok (.ref S1.length) (S1 ++ [.lst ys]) := by unfold lListN; rw [q1, bind_ok, qi]
    rw [e0]
    unfold gItems at qi
    split at qi
    · obtain ⟨v, rfl, rv'⟩ := w1.one
      have fin : ∀ {a : Addr} {vs : List V}, v = .ref a → (SqL X.K H1 a vs ∨ SqT X.K H1 a vs) → VRs X.K m1 H1 vs ys → wpAny (model X.prog X.w) X.A (call (.type "list") us) (VPr X pins σ m H (.ok (.ref S1.length) (S1 ++ [.lst ys]))) X.xe s1 := by
        intro a vs ev h1 r1
        subst ev
        refine thn (call_list_of pins s1 σ H1 _ us (fun v' H' => ∃ l, H1 l = none ∧ v' = .ref l ∧ H' = upd H1 l (.lst vs)) I1 rv ⟨a, vs, rfl, h1, fun l hl => ⟨l, hl, rfl, rfl⟩⟩) fun u s2 ⟨v2, H2, I2, rv2, l, hl, ev2, eH⟩ => ?_
        subst ev2
        subst eH
        obtain ⟨m', z1, z2, z3⟩ := qv_newL x1 hl r1
        exact (vpr_of ⟨.ref l, _, m', I2, rv2, z1, z2, z3⟩).left e1
      split at qi
      · rename_i zs e1'
        cases qi
        obtain ⟨a, vs, ev, h1, r1⟩ := vw_lst x1 rv' e1'
        exact fin ev (.inl h1) r1
      · rename_i zs e1'
        cases qi
        obtain ⟨a, vs, ev, h1, r1⟩ := vw_tup rv' e1'
        exact fin ev (.inr (SqT.of h1)) r1
      · cases qi
    · cases qi
end MP

/-! list + list; isinstance tables of exceptions -/
namespace MP
open PySem PySem.Spec PyProof.Rows L2
theorem list_add_any (l : Addr) (ol : Obj) (items : Array Value) (n : Nat) (b : Addr) (ob : Obj) (items2 : Array Value) (n2 : Nat) (hz : items.size + items2.size ≤ sizeLine) :
    Meets (Builtin.«list.__add__» ⟨[.ref l, .ref b], []⟩) (fun _ R s => s.heap.get? l = some ol ∧ ol.data = .seq items n ∧ s.heap.get? b = some ob ∧ ob.cls = .type "list" ∧ ob.data = .seq items2 n2 ∧
      R (.ok (.ret (Value.ref s.heap.objs.size))) { s with heap := s.heap.push { cls := Value.type "list", data := Data.seq (items ++ items2) } }) :=
  .of_wp fun prog w A R s h => by
    obtain ⟨hl, hd, hb, hc, hd2, h⟩ := h
    have f3 := sub_list_list
    have tb : s.TypeIs (.ref b) "list" := ⟨ob, hb, hc⟩
    unfold Builtin.«list.__add__»
    refine wpAny_bind (wpAny_of_eq (a := ((Value.ref l : Value), [Value.ref b])) (by first | rfl | (simp only [slotArgs]; rfl)) ?_)
    refine wpAny_bind (wpAny_isInstance tb f3 ?_)
    simp only [Bool.not_true, Bool.false_eq_true, if_false]
    first
      | exact wpAny_bind (wpAny_bind (wpAny_listItems hl hd (wpAny_bind (wpAny_listItems hb hd2 (wpAny_newObj_type (wpAny_pure ⟨_, rfl, h⟩) (by first | size_fits | (show (items ++ items2).size ≤ sizeLine; rw [Array.size_append]; omega)))))))
      | exact wpAny_bind (wpAny_listItems hl hd (wpAny_bind (wpAny_listItems hb hd2 (wpAny_bind (wpAny_newObj_type (wpAny_pure ⟨_, rfl, h⟩) (by first | size_fits | (show (items ++ items2).size ≤ sizeLine; rw [Array.size_append]; omega)))))))

section
variable {X : Cx}
theorem opl_catL : OpL X (binaryOp .Add) gCatL := ⟨fun pins s σ H m S x y dx dy d v u I q rx ry ex ey e => by
  obtain ⟨i, j, e1, e2, e3⟩ := g2L_inv e
  split at e3
  · rename_i hz
    cases e3
    obtain ⟨a, xs, rfl, ha, r1⟩ := vw_lst q rx e1
    obtain ⟨b, ys, rfl, hb, r2⟩ := vw_lst q ry e2
    obtain rfl : v = Value.ref a := ex
    obtain rfl : u = Value.ref b := ey
    obtain ⟨its, rv, ⟨o, n, h1, h2, hn, h3⟩, hz1⟩ := I.list ha
    obtain ⟨its2, rv2, ⟨o2, n2, g1, g2, gn, g3⟩, hz2⟩ := I.list hb
    have hl : its.length + its2.length ≤ sizeLine := by rw [← rv.length, ← rv2.length, r1.length, r2.length]; exact hz
    refine concat_meets ⟨_, h1, h2⟩ ⟨_, g1, g2⟩ noFill_list_add seq_list_add F.slot_list_add F.entry_list_add (F.args_list_add_2 _ _) (list_add_any a o its.toArray n b o2 its2.toArray n2 (by rw [List.size_toArray, List.size_toArray]; exact hl)) ⟨h1, h3, g1, g2, g3, ?_⟩
    have ea : its.toArray ++ its2.toArray = (its ++ its2).toArray := by simp
    rw [ea]
    have hf : H s.heap.objs.size = none := I.hok.fresh (Nat.le_refl _)
    have hl2 : (xs ++ ys).length ≤ sizeLine := by rw [List.length_append, r1.length, r2.length]; exact hz
    exact ⟨.ref s.heap.objs.size, upd H s.heap.objs.size (.lst (xs ++ ys)), m, I.laid (t' := s.toks) (fun b u e => Heap.get?_push_of_some _ e) (Nat.le_refl _) ⟨hl2, its ++ its2, 0, rv.append rv2, Heap.get?_push_size _ rfl⟩, rfl, Ext.fresh hf, q.fresh hf, vr_newLst q hf (r1.append r2)⟩
  · cases e3⟩
def gAdd2 : G2 := fun S x y => (gAdd S x y).or (gCatL S x y)
theorem opl_add2 : OpL X (binaryOp .Add) gAdd2 := opl_add.or opl_catL
end
theorem mem2 {C A B : Addr} (h : C ∈ [A, B]) : C = A ∨ C = B := by simpa using h
open Classical in
noncomputable def tabE (K : PySem.W.Frag) (c : Value) : Addr → Option Bool := fun D => if ExcC K D then PySem.W.kitOne K (.ref D) c else none
theorem tabE_ok (K : PySem.W.Frag) (c : Value) : IsEOk K c (tabE K c) := ⟨fun C b h => by
  unfold tabE at h
  split at h
  · exact ⟨h, ‹_›⟩
  · cases h⟩
theorem tabE_at {K : PySem.W.Frag} {c : Value} {D : Addr} {b : Bool} (E : ExcC K D) (h : PySem.W.kitOne K (.ref D) c = some b) : tabE K c D = some b := by
  unfold tabE
  rw [if_pos E]; exact h
theorem ise_ok {K : PySem.W.Frag} {c : Value} {D : Addr} {b : Bool} {l : LE} {ρ : Ev} {S S1 : Sto} {fs : List (Str × MP.D)} (E : ExcC K D) (h : PySem.W.kitOne K (.ref D) c = some b) (hl : l ρ S = .ok (.exn D fs) S1) : lIsE (tabE K c) l ρ S = .ok (.bl b) S1 := by
  unfold lIsE
  rw [hl, bind_ok]
  show lift1 ((tabE K c D).map .bl) S1 = _
  rw [tabE_at E h]; rfl
theorem flde_ok {Cs : List Addr} {f : Str} {D : Addr} {l : LE} {ρ : Ev} {S S1 : Sto} {fs : List (Str × MP.D)} {d : MP.D} (hl : l ρ S = .ok (.exn D fs) S1) (hm : D ∈ Cs) (hf : fs.lookup f = some d) : lFldE Cs f l ρ S = .ok d S1 := by
  unfold lFldE
  rw [hl, bind_ok]
  show lift1 (if D ∈ Cs then fs.lookup f else none) S1 = _
  rw [if_pos hm, hf]; rfl
theorem exm_of {K : PySem.W.Frag} {S C : Addr} {b : Bool} (h1 : PySem.W.subIn K (.ref S) (.type "BaseException") = some true) (h2 : PySem.W.hasDictIn K S = true) (h3 : PySem.W.typeIn K (.ref S) = some (.type "type")) (h4 : PySem.W.subIn K (.ref C) (.ref S) = some b) :
    PySem.W.exmOne K (.ref C) (.ref S) = some b := by
  have hc : (PySem.W.clsIn K S).isSome = true := by obtain ⟨cd, hc, _⟩ := PySem.W.any_some h2; rw [hc]; rfl
  unfold PySem.W.exmOne PySem.W.kitCls
  rw [h1]
  simp [hc, h3, h4]
theorem mke_ok {C : Addr} {fs : List Str} {t : LA} {ρ : Ev} {S S1 : Sto} {ds : List D} (h : t ρ S = .ok ds S1) (hl : ds.length = fs.length) : ((t ρ S).bind fun ds S1 => mkE C fs ds S1) = .ok (.exn C (fs.zip ds).reverse) S1 := by
  rw [h, bind_ok]; unfold mkE; rw [if_pos hl]
theorem mkek_ok {C : Addr} {fs ks : List Str} {pk : List Nat} {t : LA} {ρ : Ev} {S S1 : Sto} {ds : List D} (h : t ρ S = .ok ds S1) (hl : ds.length = ks.length) (hp : (pick pk ds).length = fs.length) : ((t ρ S).bind fun es S2 => mkEk C fs ks pk es S2) = .ok (.exn C (fs.zip (pick pk ds)).reverse) S1 := by
  rw [h, bind_ok]; unfold mkEk; rw [if_pos ⟨hl, hp⟩]
end MP

namespace K08
open PySem PySem.Spec PyProof.Rows L2 MP
def top (i : Nat) : Stmt := PySem.Challenge.pw_lotgivers_k08_refusals_made.main.body.getD i (.Pass ⟨0, 0, 0, 0⟩)
abbrev s_NoMember___init__ : Stmt := inClass (top 2) 0
abbrev N_NoMember___init__ : List Str := ["self", "name"]
theorem sc_NoMember___init__ : FnScope N_NoMember___init__ ["self", "name"] (defScope s_NoMember___init__) := ⟨rfl, rfl, rfl, by decide +kernel, rfl, by decide +kernel, by decide +kernel⟩
abbrev s_NoDrawing___init__ : Stmt := inClass (top 3) 0
abbrev N_NoDrawing___init__ : List Str := ["self", "thing"]
theorem sc_NoDrawing___init__ : FnScope N_NoDrawing___init__ ["self", "thing"] (defScope s_NoDrawing___init__) := ⟨rfl, rfl, rfl, by decide +kernel, rfl, by decide +kernel, by decide +kernel⟩
abbrev s_TooFew___init__ : Stmt := inClass (top 4) 0
abbrev N_TooFew___init__ : List Str := ["self", "lot"]
theorem sc_TooFew___init__ : FnScope N_TooFew___init__ ["self", "lot"] (defScope s_TooFew___init__) := ⟨rfl, rfl, rfl, by decide +kernel, rfl, by decide +kernel, by decide +kernel⟩
abbrev s_NoNumber___init__ : Stmt := inClass (top 5) 0
abbrev N_NoNumber___init__ : List Str := ["self", "number"]
theorem sc_NoNumber___init__ : FnScope N_NoNumber___init__ ["self", "number"] (defScope s_NoNumber___init__) := ⟨rfl, rfl, rfl, by decide +kernel, rfl, by decide +kernel, by decide +kernel⟩
abbrev s_TooMany___init__ : Stmt := inClass (top 6) 0
abbrev N_TooMany___init__ : List Str := ["self", "many"]
theorem sc_TooMany___init__ : FnScope N_TooMany___init__ ["self", "many"] (defScope s_TooMany___init__) := ⟨rfl, rfl, rfl, by decide +kernel, rfl, by decide +kernel, by decide +kernel⟩
abbrev s_Twice___init__ : Stmt := inClass (top 7) 0
abbrev N_Twice___init__ : List Str := ["self", "name"]
theorem sc_Twice___init__ : FnScope N_Twice___init__ ["self", "name"] (defScope s_Twice___init__) := ⟨rfl, rfl, rfl, by decide +kernel, rfl, by decide +kernel, by decide +kernel⟩
abbrev s_NoText___init__ : Stmt := inClass (top 8) 0
abbrev N_NoText___init__ : List Str := ["self", "row"]
theorem sc_NoText___init__ : FnScope N_NoText___init__ ["self", "row"] (defScope s_NoText___init__) := ⟨rfl, rfl, rfl, by decide +kernel, rfl, by decide +kernel, by decide +kernel⟩
abbrev s_NoBar___init__ : Stmt := inClass (top 9) 0
abbrev N_NoBar___init__ : List Str := ["self", "giver", "taker"]
theorem sc_NoBar___init__ : FnScope N_NoBar___init__ ["self", "giver", "taker"] (defScope s_NoBar___init__) := ⟨rfl, rfl, rfl, by decide +kernel, rfl, by decide +kernel, by decide +kernel⟩
abbrev s__law_blend : Stmt := top 14
abbrev N__law_blend : List Str := ["_law_sown", "_law_turn", "_law_seed", "_law_once"]
theorem sc__law_blend : FnScope N__law_blend ["_law_sown", "_law_turn"] (defScope s__law_blend) := ⟨rfl, rfl, rfl, by decide +kernel, rfl, by decide +kernel, by decide +kernel⟩
abbrev s__law_pot : Stmt := top 15
abbrev N__law_pot : List Str := ["_law_script"]
theorem sc__law_pot : FnScope N__law_pot ["_law_script"] (defScope s__law_pot) := ⟨rfl, rfl, rfl, by decide +kernel, rfl, by decide +kernel, by decide +kernel⟩
abbrev s__law_draw : Stmt := top 16
abbrev N__law_draw : List Str := ["_law_pot_here", "_law_size", "_law_cell", "_law_digit"]
theorem sc__law_draw : FnScope N__law_draw ["_law_pot_here", "_law_size"] (defScope s__law_draw) := ⟨rfl, rfl, rfl, by decide +kernel, rfl, by decide +kernel, by decide +kernel⟩
abbrev s__law_pick : Stmt := top 17
abbrev N__law_pick : List Str := ["_law_pot_here", "_law_some"]
theorem sc__law_pick : FnScope N__law_pick ["_law_pot_here", "_law_some"] (defScope s__law_pick) := ⟨rfl, rfl, rfl, by decide +kernel, rfl, by decide +kernel, by decide +kernel⟩
abbrev s__law_things : Stmt := top 18
abbrev N__law_things : List Str := ["_law_pot_here", "_law_digit", "_law_some"]
theorem sc__law_things : FnScope N__law_things ["_law_pot_here"] (defScope s__law_things) := ⟨rfl, rfl, rfl, by decide +kernel, rfl, by decide +kernel, by decide +kernel⟩
abbrev s__law_made : Stmt := top 19
abbrev N__law_made : List Str := ["_law_way", "_law_held", "_law_by_name"]
theorem sc__law_made : FnScope N__law_made ["_law_way", "_law_held", "_law_by_name"] (defScope s__law_made) := ⟨rfl, rfl, rfl, by decide +kernel, rfl, by decide +kernel, by decide +kernel⟩
abbrev s__law_kept : Stmt := top 20
abbrev N__law_kept : List Str := ["_law_way", "_law_made_here"]
theorem sc__law_kept : FnScope N__law_kept ["_law_way", "_law_made_here"] (defScope s__law_kept) := ⟨rfl, rfl, rfl, by decide +kernel, rfl, by decide +kernel, by decide +kernel⟩
abbrev s__law_classes : Stmt := top 21
abbrev N__law_classes : List Str := ["_law_made_here", "_law_found"]
theorem sc__law_classes : FnScope N__law_classes ["_law_made_here"] (defScope s__law_classes) := ⟨rfl, rfl, rfl, by decide +kernel, rfl, by decide +kernel, by decide +kernel⟩
abbrev s__law_raised : Stmt := top 22
abbrev N__law_raised : List Str := ["_law_held", "_law_caught", "e"]
theorem sc__law_raised : FnScope N__law_raised ["_law_held"] (defScope s__law_raised) := ⟨rfl, rfl, rfl, by decide +kernel, rfl, by decide +kernel, by decide +kernel⟩
abbrev s__law_right : Stmt := top 23
abbrev N__law_right : List Str := ["_law_way", "_law_one", "_law_other", "_law_first", "_law_second", "_law_k"]
theorem sc__law_right : FnScope N__law_right ["_law_way", "_law_one", "_law_other"] (defScope s__law_right) := ⟨rfl, rfl, rfl, by decide +kernel, rfl, by decide +kernel, by decide +kernel⟩
abbrev s_law : Stmt := top 24
abbrev N_law : List Str := ["_law_script", "_law_pot_here", "_law_one", "_law_other", "_law_way", "_law_first", "_law_second", "_law_made_here", "_law_k"]
theorem sc_law : FnScope N_law ["_law_script"] (defScope s_law) := ⟨rfl, rfl, rfl, by decide +kernel, rfl, by decide +kernel, by decide +kernel⟩
structure T08 (K : PySem.W.Frag) (mg : Str → Option Value) where
  C_NoMember : Addr
  C_NoDrawing : Addr
  C_TooFew : Addr
  C_NoNumber : Addr
  C_TooMany : Addr
  C_Twice : Addr
  C_NoText : Addr
  C_NoBar : Addr
  C_NoYear : Addr
  C_NoBack : Addr
  C_NoRow : Addr
  C_LotError : Addr
  f_NoMember___init__ : Addr
  fd_NoMember___init__ : FuncData
  F_NoMember___init__ : Fun K "__init__" "NoMember.__init__" s_NoMember___init__ f_NoMember___init__ fd_NoMember___init__
  b_NoMember___init__ : Binds K fd_NoMember___init__ ["self", "name"] []
  f_NoDrawing___init__ : Addr
  fd_NoDrawing___init__ : FuncData
  F_NoDrawing___init__ : Fun K "__init__" "NoDrawing.__init__" s_NoDrawing___init__ f_NoDrawing___init__ fd_NoDrawing___init__
  b_NoDrawing___init__ : Binds K fd_NoDrawing___init__ ["self", "thing"] []
  f_TooFew___init__ : Addr
  fd_TooFew___init__ : FuncData
  F_TooFew___init__ : Fun K "__init__" "TooFew.__init__" s_TooFew___init__ f_TooFew___init__ fd_TooFew___init__
  b_TooFew___init__ : Binds K fd_TooFew___init__ ["self", "lot"] []
  f_NoNumber___init__ : Addr
  fd_NoNumber___init__ : FuncData
  F_NoNumber___init__ : Fun K "__init__" "NoNumber.__init__" s_NoNumber___init__ f_NoNumber___init__ fd_NoNumber___init__
  b_NoNumber___init__ : Binds K fd_NoNumber___init__ ["self", "number"] []
  f_TooMany___init__ : Addr
  fd_TooMany___init__ : FuncData
  F_TooMany___init__ : Fun K "__init__" "TooMany.__init__" s_TooMany___init__ f_TooMany___init__ fd_TooMany___init__
  b_TooMany___init__ : Binds K fd_TooMany___init__ ["self", "many"] []
  f_Twice___init__ : Addr
  fd_Twice___init__ : FuncData
  F_Twice___init__ : Fun K "__init__" "Twice.__init__" s_Twice___init__ f_Twice___init__ fd_Twice___init__
  b_Twice___init__ : Binds K fd_Twice___init__ ["self", "name"] []
  f_NoText___init__ : Addr
  fd_NoText___init__ : FuncData
  F_NoText___init__ : Fun K "__init__" "NoText.__init__" s_NoText___init__ f_NoText___init__ fd_NoText___init__
  b_NoText___init__ : Binds K fd_NoText___init__ ["self", "row"] []
  f_NoBar___init__ : Addr
  fd_NoBar___init__ : FuncData
  F_NoBar___init__ : Fun K "__init__" "NoBar.__init__" s_NoBar___init__ f_NoBar___init__ fd_NoBar___init__
  b_NoBar___init__ : Binds K fd_NoBar___init__ ["self", "giver", "taker"] []
  f__law_blend : Addr
  fd__law_blend : FuncData
  F__law_blend : Fun K "_law_blend" "_law_blend" s__law_blend f__law_blend fd__law_blend
  b__law_blend : Binds K fd__law_blend ["_law_sown", "_law_turn"] []
  mg__law_blend : mg "_law_blend" = some (.ref f__law_blend)
  f__law_pot : Addr
  fd__law_pot : FuncData
  F__law_pot : Fun K "_law_pot" "_law_pot" s__law_pot f__law_pot fd__law_pot
  b__law_pot : Binds K fd__law_pot ["_law_script"] []
  mg__law_pot : mg "_law_pot" = some (.ref f__law_pot)
  f__law_draw : Addr
  fd__law_draw : FuncData
  F__law_draw : Fun K "_law_draw" "_law_draw" s__law_draw f__law_draw fd__law_draw
  b__law_draw : Binds K fd__law_draw ["_law_pot_here", "_law_size"] []
  mg__law_draw : mg "_law_draw" = some (.ref f__law_draw)
  f__law_pick : Addr
  fd__law_pick : FuncData
  F__law_pick : Fun K "_law_pick" "_law_pick" s__law_pick f__law_pick fd__law_pick
  b__law_pick : Binds K fd__law_pick ["_law_pot_here", "_law_some"] []
  mg__law_pick : mg "_law_pick" = some (.ref f__law_pick)
  f__law_things : Addr
  fd__law_things : FuncData
  F__law_things : Fun K "_law_things" "_law_things" s__law_things f__law_things fd__law_things
  b__law_things : Binds K fd__law_things ["_law_pot_here"] []
  mg__law_things : mg "_law_things" = some (.ref f__law_things)
  f__law_made : Addr
  fd__law_made : FuncData
  F__law_made : Fun K "_law_made" "_law_made" s__law_made f__law_made fd__law_made
  b__law_made : Binds K fd__law_made ["_law_way", "_law_held", "_law_by_name"] []
  mg__law_made : mg "_law_made" = some (.ref f__law_made)
  f__law_kept : Addr
  fd__law_kept : FuncData
  F__law_kept : Fun K "_law_kept" "_law_kept" s__law_kept f__law_kept fd__law_kept
  b__law_kept : Binds K fd__law_kept ["_law_way", "_law_made_here"] []
  mg__law_kept : mg "_law_kept" = some (.ref f__law_kept)
  f__law_classes : Addr
  fd__law_classes : FuncData
  F__law_classes : Fun K "_law_classes" "_law_classes" s__law_classes f__law_classes fd__law_classes
  b__law_classes : Binds K fd__law_classes ["_law_made_here"] []
  mg__law_classes : mg "_law_classes" = some (.ref f__law_classes)
  f__law_raised : Addr
  fd__law_raised : FuncData
  F__law_raised : Fun K "_law_raised" "_law_raised" s__law_raised f__law_raised fd__law_raised
  b__law_raised : Binds K fd__law_raised ["_law_held"] []
  mg__law_raised : mg "_law_raised" = some (.ref f__law_raised)
  f__law_right : Addr
  fd__law_right : FuncData
  F__law_right : Fun K "_law_right" "_law_right" s__law_right f__law_right fd__law_right
  b__law_right : Binds K fd__law_right ["_law_way", "_law_one", "_law_other"] []
  mg__law_right : mg "_law_right" = some (.ref f__law_right)
  f_law : Addr
  fd_law : FuncData
  F_law : Fun K "law" "law" s_law f_law fd_law
  b_law : Binds K fd_law ["_law_script"] []
  mg_law : mg "law" = some (.ref f_law)
  mg_NoMember : mg "NoMember" = some (.ref C_NoMember)
  kc_NoMember : PySem.W.keepIn K (.ref C_NoMember) = true
  xf_NoMember : XfC K C_NoMember
  ec_NoMember : ExcC K C_NoMember
  ex_NoMember : PySem.W.subIn K (.ref C_NoMember) (.type "BaseException") = some true
  ty_NoMember : PySem.W.typeIn K (.ref C_NoMember) = some (.type "type")
  ox_NoMember : OexC K C_NoMember
  no_NoMember_name : PySem.W.findIn K (.ref C_NoMember) "name" = some none
  mkE_NoMember : MkE K C_NoMember f_NoMember___init__ ["name"]
  mg_NoDrawing : mg "NoDrawing" = some (.ref C_NoDrawing)
  kc_NoDrawing : PySem.W.keepIn K (.ref C_NoDrawing) = true
  xf_NoDrawing : XfC K C_NoDrawing
  ec_NoDrawing : ExcC K C_NoDrawing
  ex_NoDrawing : PySem.W.subIn K (.ref C_NoDrawing) (.type "BaseException") = some true
  ty_NoDrawing : PySem.W.typeIn K (.ref C_NoDrawing) = some (.type "type")
  ox_NoDrawing : OexC K C_NoDrawing
  no_NoDrawing_thing : PySem.W.findIn K (.ref C_NoDrawing) "thing" = some none
  mkE_NoDrawing : MkE K C_NoDrawing f_NoDrawing___init__ ["thing"]
  mg_TooFew : mg "TooFew" = some (.ref C_TooFew)
  kc_TooFew : PySem.W.keepIn K (.ref C_TooFew) = true
  xf_TooFew : XfC K C_TooFew
  ec_TooFew : ExcC K C_TooFew
  ex_TooFew : PySem.W.subIn K (.ref C_TooFew) (.type "BaseException") = some true
  ty_TooFew : PySem.W.typeIn K (.ref C_TooFew) = some (.type "type")
  ox_TooFew : OexC K C_TooFew
  no_TooFew_lot : PySem.W.findIn K (.ref C_TooFew) "lot" = some none
  mkE_TooFew : MkE K C_TooFew f_TooFew___init__ ["lot"]
  mg_NoNumber : mg "NoNumber" = some (.ref C_NoNumber)
  kc_NoNumber : PySem.W.keepIn K (.ref C_NoNumber) = true
  xf_NoNumber : XfC K C_NoNumber
  ec_NoNumber : ExcC K C_NoNumber
  ex_NoNumber : PySem.W.subIn K (.ref C_NoNumber) (.type "BaseException") = some true
  ty_NoNumber : PySem.W.typeIn K (.ref C_NoNumber) = some (.type "type")
  ox_NoNumber : OexC K C_NoNumber
  no_NoNumber_number : PySem.W.findIn K (.ref C_NoNumber) "number" = some none
  mkE_NoNumber : MkE K C_NoNumber f_NoNumber___init__ ["number"]
  mg_TooMany : mg "TooMany" = some (.ref C_TooMany)
  kc_TooMany : PySem.W.keepIn K (.ref C_TooMany) = true
  xf_TooMany : XfC K C_TooMany
  ec_TooMany : ExcC K C_TooMany
  ex_TooMany : PySem.W.subIn K (.ref C_TooMany) (.type "BaseException") = some true
  ty_TooMany : PySem.W.typeIn K (.ref C_TooMany) = some (.type "type")
  ox_TooMany : OexC K C_TooMany
  no_TooMany_many : PySem.W.findIn K (.ref C_TooMany) "many" = some none
  mkE_TooMany : MkE K C_TooMany f_TooMany___init__ ["many"]
  mg_Twice : mg "Twice" = some (.ref C_Twice)
  kc_Twice : PySem.W.keepIn K (.ref C_Twice) = true
  xf_Twice : XfC K C_Twice
  ec_Twice : ExcC K C_Twice
  ex_Twice : PySem.W.subIn K (.ref C_Twice) (.type "BaseException") = some true
  ty_Twice : PySem.W.typeIn K (.ref C_Twice) = some (.type "type")
  ox_Twice : OexC K C_Twice
  no_Twice_name : PySem.W.findIn K (.ref C_Twice) "name" = some none
  mkE_Twice : MkE K C_Twice f_Twice___init__ ["name"]
  mg_NoText : mg "NoText" = some (.ref C_NoText)
  kc_NoText : PySem.W.keepIn K (.ref C_NoText) = true
  xf_NoText : XfC K C_NoText
  ec_NoText : ExcC K C_NoText
  ex_NoText : PySem.W.subIn K (.ref C_NoText) (.type "BaseException") = some true
  ty_NoText : PySem.W.typeIn K (.ref C_NoText) = some (.type "type")
  ox_NoText : OexC K C_NoText
  no_NoText_row : PySem.W.findIn K (.ref C_NoText) "row" = some none
  mkE_NoText : MkE K C_NoText f_NoText___init__ ["row"]
  mg_NoBar : mg "NoBar" = some (.ref C_NoBar)
  kc_NoBar : PySem.W.keepIn K (.ref C_NoBar) = true
  xf_NoBar : XfC K C_NoBar
  ec_NoBar : ExcC K C_NoBar
  ex_NoBar : PySem.W.subIn K (.ref C_NoBar) (.type "BaseException") = some true
  ty_NoBar : PySem.W.typeIn K (.ref C_NoBar) = some (.type "type")
  ox_NoBar : OexC K C_NoBar
  no_NoBar_giver : PySem.W.findIn K (.ref C_NoBar) "giver" = some none
  no_NoBar_taker : PySem.W.findIn K (.ref C_NoBar) "taker" = some none
  mkE_NoBar : MkE K C_NoBar f_NoBar___init__ ["giver", "taker"]
  mg_NoYear : mg "NoYear" = some (.ref C_NoYear)
  kc_NoYear : PySem.W.keepIn K (.ref C_NoYear) = true
  xf_NoYear : XfC K C_NoYear
  ec_NoYear : ExcC K C_NoYear
  ex_NoYear : PySem.W.subIn K (.ref C_NoYear) (.type "BaseException") = some true
  ty_NoYear : PySem.W.typeIn K (.ref C_NoYear) = some (.type "type")
  xi_NoYear : PySem.W.excIn K C_NoYear ([.type "ValueError", .type "Exception", .type "BaseException", .type "object"]) "ValueError.__new__" = true
  mg_NoBack : mg "NoBack" = some (.ref C_NoBack)
  kc_NoBack : PySem.W.keepIn K (.ref C_NoBack) = true
  xf_NoBack : XfC K C_NoBack
  ec_NoBack : ExcC K C_NoBack
  ex_NoBack : PySem.W.subIn K (.ref C_NoBack) (.type "BaseException") = some true
  ty_NoBack : PySem.W.typeIn K (.ref C_NoBack) = some (.type "type")
  xi_NoBack : PySem.W.excIn K C_NoBack ([.type "ValueError", .type "Exception", .type "BaseException", .type "object"]) "ValueError.__new__" = true
  mg_NoRow : mg "NoRow" = some (.ref C_NoRow)
  kc_NoRow : PySem.W.keepIn K (.ref C_NoRow) = true
  xf_NoRow : XfC K C_NoRow
  ec_NoRow : ExcC K C_NoRow
  ex_NoRow : PySem.W.subIn K (.ref C_NoRow) (.type "BaseException") = some true
  ty_NoRow : PySem.W.typeIn K (.ref C_NoRow) = some (.type "type")
  xi_NoRow : PySem.W.excIn K C_NoRow ([.type "ValueError", .type "Exception", .type "BaseException", .type "object"]) "ValueError.__new__" = true
  mg_LotError : mg "LotError" = some (.ref C_LotError)
  kc_LotError : PySem.W.keepIn K (.ref C_LotError) = true
  xf_LotError : XfC K C_LotError
  ec_LotError : ExcC K C_LotError
  ex_LotError : PySem.W.subIn K (.ref C_LotError) (.type "BaseException") = some true
  ty_LotError : PySem.W.typeIn K (.ref C_LotError) = some (.type "type")
  li : LInit K C_LotError (.type "type")
  kw_NoMember_name : KwB K fd_NoMember___init__ ["self", "name"] 1 ["name"] (0 :: ([0] : List Nat).map (· + 1)) []
  kw_NoDrawing_thing : KwB K fd_NoDrawing___init__ ["self", "thing"] 1 ["thing"] (0 :: ([0] : List Nat).map (· + 1)) []
  kw_TooFew_lot : KwB K fd_TooFew___init__ ["self", "lot"] 1 ["lot"] (0 :: ([0] : List Nat).map (· + 1)) []
  kw_NoNumber_number : KwB K fd_NoNumber___init__ ["self", "number"] 1 ["number"] (0 :: ([0] : List Nat).map (· + 1)) []
  kw_TooMany_many : KwB K fd_TooMany___init__ ["self", "many"] 1 ["many"] (0 :: ([0] : List Nat).map (· + 1)) []
  kw_Twice_name : KwB K fd_Twice___init__ ["self", "name"] 1 ["name"] (0 :: ([0] : List Nat).map (· + 1)) []
  kw_NoText_row : KwB K fd_NoText___init__ ["self", "row"] 1 ["row"] (0 :: ([0] : List Nat).map (· + 1)) []
  kw_NoBar_taker_giver : KwB K fd_NoBar___init__ ["self", "giver", "taker"] 1 ["taker", "giver"] (0 :: ([1, 0] : List Nat).map (· + 1)) []
  ko_NoMember_NoMember : PySem.W.kitOne K (.ref C_NoMember) (.ref C_NoMember) = some true
  ko_NoMember_NoDrawing : PySem.W.kitOne K (.ref C_NoMember) (.ref C_NoDrawing) = some false
  ko_NoMember_TooFew : PySem.W.kitOne K (.ref C_NoMember) (.ref C_TooFew) = some false
  ko_NoMember_NoNumber : PySem.W.kitOne K (.ref C_NoMember) (.ref C_NoNumber) = some false
  ko_NoMember_TooMany : PySem.W.kitOne K (.ref C_NoMember) (.ref C_TooMany) = some false
  ko_NoMember_Twice : PySem.W.kitOne K (.ref C_NoMember) (.ref C_Twice) = some false
  ko_NoMember_NoText : PySem.W.kitOne K (.ref C_NoMember) (.ref C_NoText) = some false
  ko_NoMember_NoBar : PySem.W.kitOne K (.ref C_NoMember) (.ref C_NoBar) = some false
  ko_NoMember_NoYear : PySem.W.kitOne K (.ref C_NoMember) (.ref C_NoYear) = some false
  ko_NoMember_NoBack : PySem.W.kitOne K (.ref C_NoMember) (.ref C_NoBack) = some false
  ko_NoMember_NoRow : PySem.W.kitOne K (.ref C_NoMember) (.ref C_NoRow) = some false
  ko_NoMember_LotError : PySem.W.kitOne K (.ref C_NoMember) (.ref C_LotError) = some true
  ko_NoMember_ValueError : PySem.W.kitOne K (.ref C_NoMember) (.type "ValueError") = some true
  ko_NoDrawing_NoMember : PySem.W.kitOne K (.ref C_NoDrawing) (.ref C_NoMember) = some false
  ko_NoDrawing_NoDrawing : PySem.W.kitOne K (.ref C_NoDrawing) (.ref C_NoDrawing) = some true
  ko_NoDrawing_TooFew : PySem.W.kitOne K (.ref C_NoDrawing) (.ref C_TooFew) = some false
  ko_NoDrawing_NoNumber : PySem.W.kitOne K (.ref C_NoDrawing) (.ref C_NoNumber) = some false
  ko_NoDrawing_TooMany : PySem.W.kitOne K (.ref C_NoDrawing) (.ref C_TooMany) = some false
  ko_NoDrawing_Twice : PySem.W.kitOne K (.ref C_NoDrawing) (.ref C_Twice) = some false
  ko_NoDrawing_NoText : PySem.W.kitOne K (.ref C_NoDrawing) (.ref C_NoText) = some false
  ko_NoDrawing_NoBar : PySem.W.kitOne K (.ref C_NoDrawing) (.ref C_NoBar) = some false
  ko_NoDrawing_NoYear : PySem.W.kitOne K (.ref C_NoDrawing) (.ref C_NoYear) = some false
  ko_NoDrawing_NoBack : PySem.W.kitOne K (.ref C_NoDrawing) (.ref C_NoBack) = some false
  ko_NoDrawing_NoRow : PySem.W.kitOne K (.ref C_NoDrawing) (.ref C_NoRow) = some false
  ko_NoDrawing_LotError : PySem.W.kitOne K (.ref C_NoDrawing) (.ref C_LotError) = some true
  ko_NoDrawing_ValueError : PySem.W.kitOne K (.ref C_NoDrawing) (.type "ValueError") = some true
  ko_TooFew_NoMember : PySem.W.kitOne K (.ref C_TooFew) (.ref C_NoMember) = some false
  ko_TooFew_NoDrawing : PySem.W.kitOne K (.ref C_TooFew) (.ref C_NoDrawing) = some false
  ko_TooFew_TooFew : PySem.W.kitOne K (.ref C_TooFew) (.ref C_TooFew) = some true
  ko_TooFew_NoNumber : PySem.W.kitOne K (.ref C_TooFew) (.ref C_NoNumber) = some false
  ko_TooFew_TooMany : PySem.W.kitOne K (.ref C_TooFew) (.ref C_TooMany) = some false
  ko_TooFew_Twice : PySem.W.kitOne K (.ref C_TooFew) (.ref C_Twice) = some false
  ko_TooFew_NoText : PySem.W.kitOne K (.ref C_TooFew) (.ref C_NoText) = some false
  ko_TooFew_NoBar : PySem.W.kitOne K (.ref C_TooFew) (.ref C_NoBar) = some false
  ko_TooFew_NoYear : PySem.W.kitOne K (.ref C_TooFew) (.ref C_NoYear) = some false
  ko_TooFew_NoBack : PySem.W.kitOne K (.ref C_TooFew) (.ref C_NoBack) = some false
  ko_TooFew_NoRow : PySem.W.kitOne K (.ref C_TooFew) (.ref C_NoRow) = some false
  ko_TooFew_LotError : PySem.W.kitOne K (.ref C_TooFew) (.ref C_LotError) = some true
  ko_TooFew_ValueError : PySem.W.kitOne K (.ref C_TooFew) (.type "ValueError") = some true
  ko_NoNumber_NoMember : PySem.W.kitOne K (.ref C_NoNumber) (.ref C_NoMember) = some false
  ko_NoNumber_NoDrawing : PySem.W.kitOne K (.ref C_NoNumber) (.ref C_NoDrawing) = some false
  ko_NoNumber_TooFew : PySem.W.kitOne K (.ref C_NoNumber) (.ref C_TooFew) = some false
  ko_NoNumber_NoNumber : PySem.W.kitOne K (.ref C_NoNumber) (.ref C_NoNumber) = some true
  ko_NoNumber_TooMany : PySem.W.kitOne K (.ref C_NoNumber) (.ref C_TooMany) = some false
  ko_NoNumber_Twice : PySem.W.kitOne K (.ref C_NoNumber) (.ref C_Twice) = some false
  ko_NoNumber_NoText : PySem.W.kitOne K (.ref C_NoNumber) (.ref C_NoText) = some false
  ko_NoNumber_NoBar : PySem.W.kitOne K (.ref C_NoNumber) (.ref C_NoBar) = some false
  ko_NoNumber_NoYear : PySem.W.kitOne K (.ref C_NoNumber) (.ref C_NoYear) = some false
  ko_NoNumber_NoBack : PySem.W.kitOne K (.ref C_NoNumber) (.ref C_NoBack) = some false
  ko_NoNumber_NoRow : PySem.W.kitOne K (.ref C_NoNumber) (.ref C_NoRow) = some false
  ko_NoNumber_LotError : PySem.W.kitOne K (.ref C_NoNumber) (.ref C_LotError) = some true
  ko_NoNumber_ValueError : PySem.W.kitOne K (.ref C_NoNumber) (.type "ValueError") = some true
  ko_TooMany_NoMember : PySem.W.kitOne K (.ref C_TooMany) (.ref C_NoMember) = some false
  ko_TooMany_NoDrawing : PySem.W.kitOne K (.ref C_TooMany) (.ref C_NoDrawing) = some false
  ko_TooMany_TooFew : PySem.W.kitOne K (.ref C_TooMany) (.ref C_TooFew) = some false
  ko_TooMany_NoNumber : PySem.W.kitOne K (.ref C_TooMany) (.ref C_NoNumber) = some false
  ko_TooMany_TooMany : PySem.W.kitOne K (.ref C_TooMany) (.ref C_TooMany) = some true
  ko_TooMany_Twice : PySem.W.kitOne K (.ref C_TooMany) (.ref C_Twice) = some false
  ko_TooMany_NoText : PySem.W.kitOne K (.ref C_TooMany) (.ref C_NoText) = some false
  ko_TooMany_NoBar : PySem.W.kitOne K (.ref C_TooMany) (.ref C_NoBar) = some false
  ko_TooMany_NoYear : PySem.W.kitOne K (.ref C_TooMany) (.ref C_NoYear) = some false
  ko_TooMany_NoBack : PySem.W.kitOne K (.ref C_TooMany) (.ref C_NoBack) = some false
  ko_TooMany_NoRow : PySem.W.kitOne K (.ref C_TooMany) (.ref C_NoRow) = some false
  ko_TooMany_LotError : PySem.W.kitOne K (.ref C_TooMany) (.ref C_LotError) = some true
  ko_TooMany_ValueError : PySem.W.kitOne K (.ref C_TooMany) (.type "ValueError") = some true
  ko_Twice_NoMember : PySem.W.kitOne K (.ref C_Twice) (.ref C_NoMember) = some false
  ko_Twice_NoDrawing : PySem.W.kitOne K (.ref C_Twice) (.ref C_NoDrawing) = some false
  ko_Twice_TooFew : PySem.W.kitOne K (.ref C_Twice) (.ref C_TooFew) = some false
  ko_Twice_NoNumber : PySem.W.kitOne K (.ref C_Twice) (.ref C_NoNumber) = some false
  ko_Twice_TooMany : PySem.W.kitOne K (.ref C_Twice) (.ref C_TooMany) = some false
  ko_Twice_Twice : PySem.W.kitOne K (.ref C_Twice) (.ref C_Twice) = some true
  ko_Twice_NoText : PySem.W.kitOne K (.ref C_Twice) (.ref C_NoText) = some false
  ko_Twice_NoBar : PySem.W.kitOne K (.ref C_Twice) (.ref C_NoBar) = some false
  ko_Twice_NoYear : PySem.W.kitOne K (.ref C_Twice) (.ref C_NoYear) = some false
  ko_Twice_NoBack : PySem.W.kitOne K (.ref C_Twice) (.ref C_NoBack) = some false
  ko_Twice_NoRow : PySem.W.kitOne K (.ref C_Twice) (.ref C_NoRow) = some false
  ko_Twice_LotError : PySem.W.kitOne K (.ref C_Twice) (.ref C_LotError) = some true
  ko_Twice_ValueError : PySem.W.kitOne K (.ref C_Twice) (.type "ValueError") = some true
  ko_NoText_NoMember : PySem.W.kitOne K (.ref C_NoText) (.ref C_NoMember) = some false
  ko_NoText_NoDrawing : PySem.W.kitOne K (.ref C_NoText) (.ref C_NoDrawing) = some false
  ko_NoText_TooFew : PySem.W.kitOne K (.ref C_NoText) (.ref C_TooFew) = some false
  ko_NoText_NoNumber : PySem.W.kitOne K (.ref C_NoText) (.ref C_NoNumber) = some false
  ko_NoText_TooMany : PySem.W.kitOne K (.ref C_NoText) (.ref C_TooMany) = some false
  ko_NoText_Twice : PySem.W.kitOne K (.ref C_NoText) (.ref C_Twice) = some false
  ko_NoText_NoText : PySem.W.kitOne K (.ref C_NoText) (.ref C_NoText) = some true
  ko_NoText_NoBar : PySem.W.kitOne K (.ref C_NoText) (.ref C_NoBar) = some false
  ko_NoText_NoYear : PySem.W.kitOne K (.ref C_NoText) (.ref C_NoYear) = some false
  ko_NoText_NoBack : PySem.W.kitOne K (.ref C_NoText) (.ref C_NoBack) = some false
  ko_NoText_NoRow : PySem.W.kitOne K (.ref C_NoText) (.ref C_NoRow) = some false
  ko_NoText_LotError : PySem.W.kitOne K (.ref C_NoText) (.ref C_LotError) = some true
  ko_NoText_ValueError : PySem.W.kitOne K (.ref C_NoText) (.type "ValueError") = some true
  ko_NoBar_NoMember : PySem.W.kitOne K (.ref C_NoBar) (.ref C_NoMember) = some false
  ko_NoBar_NoDrawing : PySem.W.kitOne K (.ref C_NoBar) (.ref C_NoDrawing) = some false
  ko_NoBar_TooFew : PySem.W.kitOne K (.ref C_NoBar) (.ref C_TooFew) = some false
  ko_NoBar_NoNumber : PySem.W.kitOne K (.ref C_NoBar) (.ref C_NoNumber) = some false
  ko_NoBar_TooMany : PySem.W.kitOne K (.ref C_NoBar) (.ref C_TooMany) = some false
  ko_NoBar_Twice : PySem.W.kitOne K (.ref C_NoBar) (.ref C_Twice) = some false
  ko_NoBar_NoText : PySem.W.kitOne K (.ref C_NoBar) (.ref C_NoText) = some false
  ko_NoBar_NoBar : PySem.W.kitOne K (.ref C_NoBar) (.ref C_NoBar) = some true
  ko_NoBar_NoYear : PySem.W.kitOne K (.ref C_NoBar) (.ref C_NoYear) = some false
  ko_NoBar_NoBack : PySem.W.kitOne K (.ref C_NoBar) (.ref C_NoBack) = some false
  ko_NoBar_NoRow : PySem.W.kitOne K (.ref C_NoBar) (.ref C_NoRow) = some false
  ko_NoBar_LotError : PySem.W.kitOne K (.ref C_NoBar) (.ref C_LotError) = some true
  ko_NoBar_ValueError : PySem.W.kitOne K (.ref C_NoBar) (.type "ValueError") = some true
  ko_NoYear_NoMember : PySem.W.kitOne K (.ref C_NoYear) (.ref C_NoMember) = some false
  ko_NoYear_NoDrawing : PySem.W.kitOne K (.ref C_NoYear) (.ref C_NoDrawing) = some false
  ko_NoYear_TooFew : PySem.W.kitOne K (.ref C_NoYear) (.ref C_TooFew) = some false
  ko_NoYear_NoNumber : PySem.W.kitOne K (.ref C_NoYear) (.ref C_NoNumber) = some false
  ko_NoYear_TooMany : PySem.W.kitOne K (.ref C_NoYear) (.ref C_TooMany) = some false
  ko_NoYear_Twice : PySem.W.kitOne K (.ref C_NoYear) (.ref C_Twice) = some false
  ko_NoYear_NoText : PySem.W.kitOne K (.ref C_NoYear) (.ref C_NoText) = some false
  ko_NoYear_NoBar : PySem.W.kitOne K (.ref C_NoYear) (.ref C_NoBar) = some false
  ko_NoYear_NoYear : PySem.W.kitOne K (.ref C_NoYear) (.ref C_NoYear) = some true
  ko_NoYear_NoBack : PySem.W.kitOne K (.ref C_NoYear) (.ref C_NoBack) = some false
  ko_NoYear_NoRow : PySem.W.kitOne K (.ref C_NoYear) (.ref C_NoRow) = some false
  ko_NoYear_LotError : PySem.W.kitOne K (.ref C_NoYear) (.ref C_LotError) = some true
  ko_NoYear_ValueError : PySem.W.kitOne K (.ref C_NoYear) (.type "ValueError") = some true
  ko_NoBack_NoMember : PySem.W.kitOne K (.ref C_NoBack) (.ref C_NoMember) = some false
  ko_NoBack_NoDrawing : PySem.W.kitOne K (.ref C_NoBack) (.ref C_NoDrawing) = some false
  ko_NoBack_TooFew : PySem.W.kitOne K (.ref C_NoBack) (.ref C_TooFew) = some false
  ko_NoBack_NoNumber : PySem.W.kitOne K (.ref C_NoBack) (.ref C_NoNumber) = some false
  ko_NoBack_TooMany : PySem.W.kitOne K (.ref C_NoBack) (.ref C_TooMany) = some false
  ko_NoBack_Twice : PySem.W.kitOne K (.ref C_NoBack) (.ref C_Twice) = some false
  ko_NoBack_NoText : PySem.W.kitOne K (.ref C_NoBack) (.ref C_NoText) = some false
  ko_NoBack_NoBar : PySem.W.kitOne K (.ref C_NoBack) (.ref C_NoBar) = some false
  ko_NoBack_NoYear : PySem.W.kitOne K (.ref C_NoBack) (.ref C_NoYear) = some false
  ko_NoBack_NoBack : PySem.W.kitOne K (.ref C_NoBack) (.ref C_NoBack) = some true
  ko_NoBack_NoRow : PySem.W.kitOne K (.ref C_NoBack) (.ref C_NoRow) = some false
  ko_NoBack_LotError : PySem.W.kitOne K (.ref C_NoBack) (.ref C_LotError) = some true
  ko_NoBack_ValueError : PySem.W.kitOne K (.ref C_NoBack) (.type "ValueError") = some true
  ko_NoRow_NoMember : PySem.W.kitOne K (.ref C_NoRow) (.ref C_NoMember) = some false
  ko_NoRow_NoDrawing : PySem.W.kitOne K (.ref C_NoRow) (.ref C_NoDrawing) = some false
  ko_NoRow_TooFew : PySem.W.kitOne K (.ref C_NoRow) (.ref C_TooFew) = some false
  ko_NoRow_NoNumber : PySem.W.kitOne K (.ref C_NoRow) (.ref C_NoNumber) = some false
  ko_NoRow_TooMany : PySem.W.kitOne K (.ref C_NoRow) (.ref C_TooMany) = some false
  ko_NoRow_Twice : PySem.W.kitOne K (.ref C_NoRow) (.ref C_Twice) = some false
  ko_NoRow_NoText : PySem.W.kitOne K (.ref C_NoRow) (.ref C_NoText) = some false
  ko_NoRow_NoBar : PySem.W.kitOne K (.ref C_NoRow) (.ref C_NoBar) = some false
  ko_NoRow_NoYear : PySem.W.kitOne K (.ref C_NoRow) (.ref C_NoYear) = some false
  ko_NoRow_NoBack : PySem.W.kitOne K (.ref C_NoRow) (.ref C_NoBack) = some false
  ko_NoRow_NoRow : PySem.W.kitOne K (.ref C_NoRow) (.ref C_NoRow) = some true
  ko_NoRow_LotError : PySem.W.kitOne K (.ref C_NoRow) (.ref C_LotError) = some true
  ko_NoRow_ValueError : PySem.W.kitOne K (.ref C_NoRow) (.type "ValueError") = some true
  xm_NoMember : PySem.W.exmOne K (.ref C_NoMember) (.ref C_LotError) = some true
  xm_NoDrawing : PySem.W.exmOne K (.ref C_NoDrawing) (.ref C_LotError) = some true
  xm_TooFew : PySem.W.exmOne K (.ref C_TooFew) (.ref C_LotError) = some true
  xm_NoNumber : PySem.W.exmOne K (.ref C_NoNumber) (.ref C_LotError) = some true
  xm_TooMany : PySem.W.exmOne K (.ref C_TooMany) (.ref C_LotError) = some true
  xm_Twice : PySem.W.exmOne K (.ref C_Twice) (.ref C_LotError) = some true
  xm_NoText : PySem.W.exmOne K (.ref C_NoText) (.ref C_LotError) = some true
  xm_NoBar : PySem.W.exmOne K (.ref C_NoBar) (.ref C_LotError) = some true
  n_len : mg "len" = none
  n_abs : mg "abs" = none
  n_all : mg "all" = none
  n_repr : mg "repr" = none
  n_range : mg "range" = none
  n_isinstance : mg "isinstance" = none
  n_list : mg "list" = none
  n_ValueError : mg "ValueError" = none
def T08_mk {K : PySem.W.Frag} {h : Heap} {mg : Str → Option Value} (X : K.In h) (G : h.Ns mainGlobals mg)
    {C_NoMember : Addr}
    {C_NoDrawing : Addr}
    {C_TooFew : Addr}
    {C_NoNumber : Addr}
    {C_TooMany : Addr}
    {C_Twice : Addr}
    {C_NoText : Addr}
    {C_NoBar : Addr}
    {C_NoYear : Addr}
    {C_NoBack : Addr}
    {C_NoRow : Addr}
    {C_LotError : Addr}
    {f_NoMember___init__ : Addr} {od_NoMember___init__ an_NoMember___init__ : Option Addr} {sl_NoMember___init__ : Array (Option Value)} {oc_NoMember___init__ kV_NoMember___init__ dc_NoMember___init__ pm_NoMember___init__ cd_NoMember___init__ ct_NoMember___init__ : Value}
    {f_NoDrawing___init__ : Addr} {od_NoDrawing___init__ an_NoDrawing___init__ : Option Addr} {sl_NoDrawing___init__ : Array (Option Value)} {oc_NoDrawing___init__ kV_NoDrawing___init__ dc_NoDrawing___init__ pm_NoDrawing___init__ cd_NoDrawing___init__ ct_NoDrawing___init__ : Value}
    {f_TooFew___init__ : Addr} {od_TooFew___init__ an_TooFew___init__ : Option Addr} {sl_TooFew___init__ : Array (Option Value)} {oc_TooFew___init__ kV_TooFew___init__ dc_TooFew___init__ pm_TooFew___init__ cd_TooFew___init__ ct_TooFew___init__ : Value}
    {f_NoNumber___init__ : Addr} {od_NoNumber___init__ an_NoNumber___init__ : Option Addr} {sl_NoNumber___init__ : Array (Option Value)} {oc_NoNumber___init__ kV_NoNumber___init__ dc_NoNumber___init__ pm_NoNumber___init__ cd_NoNumber___init__ ct_NoNumber___init__ : Value}
    {f_TooMany___init__ : Addr} {od_TooMany___init__ an_TooMany___init__ : Option Addr} {sl_TooMany___init__ : Array (Option Value)} {oc_TooMany___init__ kV_TooMany___init__ dc_TooMany___init__ pm_TooMany___init__ cd_TooMany___init__ ct_TooMany___init__ : Value}
    {f_Twice___init__ : Addr} {od_Twice___init__ an_Twice___init__ : Option Addr} {sl_Twice___init__ : Array (Option Value)} {oc_Twice___init__ kV_Twice___init__ dc_Twice___init__ pm_Twice___init__ cd_Twice___init__ ct_Twice___init__ : Value}
    {f_NoText___init__ : Addr} {od_NoText___init__ an_NoText___init__ : Option Addr} {sl_NoText___init__ : Array (Option Value)} {oc_NoText___init__ kV_NoText___init__ dc_NoText___init__ pm_NoText___init__ cd_NoText___init__ ct_NoText___init__ : Value}
    {f_NoBar___init__ : Addr} {od_NoBar___init__ an_NoBar___init__ : Option Addr} {sl_NoBar___init__ : Array (Option Value)} {oc_NoBar___init__ kV_NoBar___init__ dc_NoBar___init__ pm_NoBar___init__ cd_NoBar___init__ ct_NoBar___init__ : Value}
    {f__law_blend : Addr} {od__law_blend an__law_blend : Option Addr} {sl__law_blend : Array (Option Value)} {oc__law_blend kV__law_blend dc__law_blend pm__law_blend cd__law_blend ct__law_blend : Value}
    {f__law_pot : Addr} {od__law_pot an__law_pot : Option Addr} {sl__law_pot : Array (Option Value)} {oc__law_pot kV__law_pot dc__law_pot pm__law_pot cd__law_pot ct__law_pot : Value}
    {f__law_draw : Addr} {od__law_draw an__law_draw : Option Addr} {sl__law_draw : Array (Option Value)} {oc__law_draw kV__law_draw dc__law_draw pm__law_draw cd__law_draw ct__law_draw : Value}
    {f__law_pick : Addr} {od__law_pick an__law_pick : Option Addr} {sl__law_pick : Array (Option Value)} {oc__law_pick kV__law_pick dc__law_pick pm__law_pick cd__law_pick ct__law_pick : Value}
    {f__law_things : Addr} {od__law_things an__law_things : Option Addr} {sl__law_things : Array (Option Value)} {oc__law_things kV__law_things dc__law_things pm__law_things cd__law_things ct__law_things : Value}
    {f__law_made : Addr} {od__law_made an__law_made : Option Addr} {sl__law_made : Array (Option Value)} {oc__law_made kV__law_made dc__law_made pm__law_made cd__law_made ct__law_made : Value}
    {f__law_kept : Addr} {od__law_kept an__law_kept : Option Addr} {sl__law_kept : Array (Option Value)} {oc__law_kept kV__law_kept dc__law_kept pm__law_kept cd__law_kept ct__law_kept : Value}
    {f__law_classes : Addr} {od__law_classes an__law_classes : Option Addr} {sl__law_classes : Array (Option Value)} {oc__law_classes kV__law_classes dc__law_classes pm__law_classes cd__law_classes ct__law_classes : Value}
    {f__law_raised : Addr} {od__law_raised an__law_raised : Option Addr} {sl__law_raised : Array (Option Value)} {oc__law_raised kV__law_raised dc__law_raised pm__law_raised cd__law_raised ct__law_raised : Value}
    {f__law_right : Addr} {od__law_right an__law_right : Option Addr} {sl__law_right : Array (Option Value)} {oc__law_right kV__law_right dc__law_right pm__law_right cd__law_right ct__law_right : Value}
    {f_law : Addr} {od_law an_law : Option Addr} {sl_law : Array (Option Value)} {oc_law kV_law dc_law pm_law cd_law ct_law : Value}
    {nm_NoMember q_NoMember : Str} {N_NoMember : Addr} {bs_NoMember : List Value} {sn_NoMember : List Str} {sub_NoMember : List Value} {ab_NoMember : Bool} {col_NoMember : Option Bool} {dd_NoMember : Option Addr} {m0_NoMember m1_NoMember m2_NoMember m3_NoMember m5_NoMember : Option Value}
    {nm_NoDrawing q_NoDrawing : Str} {N_NoDrawing : Addr} {bs_NoDrawing : List Value} {sn_NoDrawing : List Str} {sub_NoDrawing : List Value} {ab_NoDrawing : Bool} {col_NoDrawing : Option Bool} {dd_NoDrawing : Option Addr} {m0_NoDrawing m1_NoDrawing m2_NoDrawing m3_NoDrawing m5_NoDrawing : Option Value}
    {nm_TooFew q_TooFew : Str} {N_TooFew : Addr} {bs_TooFew : List Value} {sn_TooFew : List Str} {sub_TooFew : List Value} {ab_TooFew : Bool} {col_TooFew : Option Bool} {dd_TooFew : Option Addr} {m0_TooFew m1_TooFew m2_TooFew m3_TooFew m5_TooFew : Option Value}
    {nm_NoNumber q_NoNumber : Str} {N_NoNumber : Addr} {bs_NoNumber : List Value} {sn_NoNumber : List Str} {sub_NoNumber : List Value} {ab_NoNumber : Bool} {col_NoNumber : Option Bool} {dd_NoNumber : Option Addr} {m0_NoNumber m1_NoNumber m2_NoNumber m3_NoNumber m5_NoNumber : Option Value}
    {nm_TooMany q_TooMany : Str} {N_TooMany : Addr} {bs_TooMany : List Value} {sn_TooMany : List Str} {sub_TooMany : List Value} {ab_TooMany : Bool} {col_TooMany : Option Bool} {dd_TooMany : Option Addr} {m0_TooMany m1_TooMany m2_TooMany m3_TooMany m5_TooMany : Option Value}
    {nm_Twice q_Twice : Str} {N_Twice : Addr} {bs_Twice : List Value} {sn_Twice : List Str} {sub_Twice : List Value} {ab_Twice : Bool} {col_Twice : Option Bool} {dd_Twice : Option Addr} {m0_Twice m1_Twice m2_Twice m3_Twice m5_Twice : Option Value}
    {nm_NoText q_NoText : Str} {N_NoText : Addr} {bs_NoText : List Value} {sn_NoText : List Str} {sub_NoText : List Value} {ab_NoText : Bool} {col_NoText : Option Bool} {dd_NoText : Option Addr} {m0_NoText m1_NoText m2_NoText m3_NoText m5_NoText : Option Value}
    {nm_NoBar q_NoBar : Str} {N_NoBar : Addr} {bs_NoBar : List Value} {sn_NoBar : List Str} {sub_NoBar : List Value} {ab_NoBar : Bool} {col_NoBar : Option Bool} {dd_NoBar : Option Addr} {m0_NoBar m1_NoBar m2_NoBar m3_NoBar m5_NoBar : Option Value}
    (aC_NoMember : PySem.W.nsIn K mainGlobals "NoMember" = some (some (.ref C_NoMember)))
    (aC_NoDrawing : PySem.W.nsIn K mainGlobals "NoDrawing" = some (some (.ref C_NoDrawing)))
    (aC_TooFew : PySem.W.nsIn K mainGlobals "TooFew" = some (some (.ref C_TooFew)))
    (aC_NoNumber : PySem.W.nsIn K mainGlobals "NoNumber" = some (some (.ref C_NoNumber)))
    (aC_TooMany : PySem.W.nsIn K mainGlobals "TooMany" = some (some (.ref C_TooMany)))
    (aC_Twice : PySem.W.nsIn K mainGlobals "Twice" = some (some (.ref C_Twice)))
    (aC_NoText : PySem.W.nsIn K mainGlobals "NoText" = some (some (.ref C_NoText)))
    (aC_NoBar : PySem.W.nsIn K mainGlobals "NoBar" = some (some (.ref C_NoBar)))
    (aC_NoYear : PySem.W.nsIn K mainGlobals "NoYear" = some (some (.ref C_NoYear)))
    (aC_NoBack : PySem.W.nsIn K mainGlobals "NoBack" = some (some (.ref C_NoBack)))
    (aC_NoRow : PySem.W.nsIn K mainGlobals "NoRow" = some (some (.ref C_NoRow)))
    (aC_LotError : PySem.W.nsIn K mainGlobals "LotError" = some (some (.ref C_LotError)))
    (hn_ : PySem.W.specialIn K (.builtin "object.__class__") "__get__" = some (some (.builtin "getset_descriptor.__get__")))
    (ht_ : PySem.W.takesIn K (.builtin "object.__class__") = some true)
    (a_NoMember___init__ : PySem.W.findIn K (.ref C_NoMember) "__init__" = some (some (.ref f_NoMember___init__)))
    (l_NoMember___init__ : K.lookup f_NoMember___init__ = some ⟨oc_NoMember___init__, od_NoMember___init__, .func (PySem.W.fnOf "__init__" "NoMember.__init__" (defArgs s_NoMember___init__) (defBody s_NoMember___init__) (defScope s_NoMember___init__) .none kV_NoMember___init__ dc_NoMember___init__ pm_NoMember___init__ an_NoMember___init__ cd_NoMember___init__ ct_NoMember___init__), sl_NoMember___init__⟩)
    (c_NoMember___init__ : PySem.W.codeIn K cd_NoMember___init__ "NoMember.__init__" = true)
    (k_NoMember___init__ : PySem.W.keepIn K (.ref f_NoMember___init__) = true)
    (a_NoDrawing___init__ : PySem.W.findIn K (.ref C_NoDrawing) "__init__" = some (some (.ref f_NoDrawing___init__)))
    (l_NoDrawing___init__ : K.lookup f_NoDrawing___init__ = some ⟨oc_NoDrawing___init__, od_NoDrawing___init__, .func (PySem.W.fnOf "__init__" "NoDrawing.__init__" (defArgs s_NoDrawing___init__) (defBody s_NoDrawing___init__) (defScope s_NoDrawing___init__) .none kV_NoDrawing___init__ dc_NoDrawing___init__ pm_NoDrawing___init__ an_NoDrawing___init__ cd_NoDrawing___init__ ct_NoDrawing___init__), sl_NoDrawing___init__⟩)
    (c_NoDrawing___init__ : PySem.W.codeIn K cd_NoDrawing___init__ "NoDrawing.__init__" = true)
    (k_NoDrawing___init__ : PySem.W.keepIn K (.ref f_NoDrawing___init__) = true)
    (a_TooFew___init__ : PySem.W.findIn K (.ref C_TooFew) "__init__" = some (some (.ref f_TooFew___init__)))
    (l_TooFew___init__ : K.lookup f_TooFew___init__ = some ⟨oc_TooFew___init__, od_TooFew___init__, .func (PySem.W.fnOf "__init__" "TooFew.__init__" (defArgs s_TooFew___init__) (defBody s_TooFew___init__) (defScope s_TooFew___init__) .none kV_TooFew___init__ dc_TooFew___init__ pm_TooFew___init__ an_TooFew___init__ cd_TooFew___init__ ct_TooFew___init__), sl_TooFew___init__⟩)
    (c_TooFew___init__ : PySem.W.codeIn K cd_TooFew___init__ "TooFew.__init__" = true)
    (k_TooFew___init__ : PySem.W.keepIn K (.ref f_TooFew___init__) = true)
    (a_NoNumber___init__ : PySem.W.findIn K (.ref C_NoNumber) "__init__" = some (some (.ref f_NoNumber___init__)))
    (l_NoNumber___init__ : K.lookup f_NoNumber___init__ = some ⟨oc_NoNumber___init__, od_NoNumber___init__, .func (PySem.W.fnOf "__init__" "NoNumber.__init__" (defArgs s_NoNumber___init__) (defBody s_NoNumber___init__) (defScope s_NoNumber___init__) .none kV_NoNumber___init__ dc_NoNumber___init__ pm_NoNumber___init__ an_NoNumber___init__ cd_NoNumber___init__ ct_NoNumber___init__), sl_NoNumber___init__⟩)
    (c_NoNumber___init__ : PySem.W.codeIn K cd_NoNumber___init__ "NoNumber.__init__" = true)
    (k_NoNumber___init__ : PySem.W.keepIn K (.ref f_NoNumber___init__) = true)
    (a_TooMany___init__ : PySem.W.findIn K (.ref C_TooMany) "__init__" = some (some (.ref f_TooMany___init__)))
    (l_TooMany___init__ : K.lookup f_TooMany___init__ = some ⟨oc_TooMany___init__, od_TooMany___init__, .func (PySem.W.fnOf "__init__" "TooMany.__init__" (defArgs s_TooMany___init__) (defBody s_TooMany___init__) (defScope s_TooMany___init__) .none kV_TooMany___init__ dc_TooMany___init__ pm_TooMany___init__ an_TooMany___init__ cd_TooMany___init__ ct_TooMany___init__), sl_TooMany___init__⟩)
    (c_TooMany___init__ : PySem.W.codeIn K cd_TooMany___init__ "TooMany.__init__" = true)
    (k_TooMany___init__ : PySem.W.keepIn K (.ref f_TooMany___init__) = true)
    (a_Twice___init__ : PySem.W.findIn K (.ref C_Twice) "__init__" = some (some (.ref f_Twice___init__)))
    (l_Twice___init__ : K.lookup f_Twice___init__ = some ⟨oc_Twice___init__, od_Twice___init__, .func (PySem.W.fnOf "__init__" "Twice.__init__" (defArgs s_Twice___init__) (defBody s_Twice___init__) (defScope s_Twice___init__) .none kV_Twice___init__ dc_Twice___init__ pm_Twice___init__ an_Twice___init__ cd_Twice___init__ ct_Twice___init__), sl_Twice___init__⟩)
    (c_Twice___init__ : PySem.W.codeIn K cd_Twice___init__ "Twice.__init__" = true)
    (k_Twice___init__ : PySem.W.keepIn K (.ref f_Twice___init__) = true)
    (a_NoText___init__ : PySem.W.findIn K (.ref C_NoText) "__init__" = some (some (.ref f_NoText___init__)))
    (l_NoText___init__ : K.lookup f_NoText___init__ = some ⟨oc_NoText___init__, od_NoText___init__, .func (PySem.W.fnOf "__init__" "NoText.__init__" (defArgs s_NoText___init__) (defBody s_NoText___init__) (defScope s_NoText___init__) .none kV_NoText___init__ dc_NoText___init__ pm_NoText___init__ an_NoText___init__ cd_NoText___init__ ct_NoText___init__), sl_NoText___init__⟩)
    (c_NoText___init__ : PySem.W.codeIn K cd_NoText___init__ "NoText.__init__" = true)
    (k_NoText___init__ : PySem.W.keepIn K (.ref f_NoText___init__) = true)
    (a_NoBar___init__ : PySem.W.findIn K (.ref C_NoBar) "__init__" = some (some (.ref f_NoBar___init__)))
    (l_NoBar___init__ : K.lookup f_NoBar___init__ = some ⟨oc_NoBar___init__, od_NoBar___init__, .func (PySem.W.fnOf "__init__" "NoBar.__init__" (defArgs s_NoBar___init__) (defBody s_NoBar___init__) (defScope s_NoBar___init__) .none kV_NoBar___init__ dc_NoBar___init__ pm_NoBar___init__ an_NoBar___init__ cd_NoBar___init__ ct_NoBar___init__), sl_NoBar___init__⟩)
    (c_NoBar___init__ : PySem.W.codeIn K cd_NoBar___init__ "NoBar.__init__" = true)
    (k_NoBar___init__ : PySem.W.keepIn K (.ref f_NoBar___init__) = true)
    (a__law_blend : PySem.W.nsIn K mainGlobals "_law_blend" = some (some (.ref f__law_blend)))
    (l__law_blend : K.lookup f__law_blend = some ⟨oc__law_blend, od__law_blend, .func (PySem.W.fnOf "_law_blend" "_law_blend" (defArgs s__law_blend) (defBody s__law_blend) (defScope s__law_blend) .none kV__law_blend dc__law_blend pm__law_blend an__law_blend cd__law_blend ct__law_blend), sl__law_blend⟩)
    (c__law_blend : PySem.W.codeIn K cd__law_blend "_law_blend" = true)
    (k__law_blend : PySem.W.keepIn K (.ref f__law_blend) = true)
    (a__law_pot : PySem.W.nsIn K mainGlobals "_law_pot" = some (some (.ref f__law_pot)))
    (l__law_pot : K.lookup f__law_pot = some ⟨oc__law_pot, od__law_pot, .func (PySem.W.fnOf "_law_pot" "_law_pot" (defArgs s__law_pot) (defBody s__law_pot) (defScope s__law_pot) .none kV__law_pot dc__law_pot pm__law_pot an__law_pot cd__law_pot ct__law_pot), sl__law_pot⟩)
    (c__law_pot : PySem.W.codeIn K cd__law_pot "_law_pot" = true)
    (k__law_pot : PySem.W.keepIn K (.ref f__law_pot) = true)
    (a__law_draw : PySem.W.nsIn K mainGlobals "_law_draw" = some (some (.ref f__law_draw)))
    (l__law_draw : K.lookup f__law_draw = some ⟨oc__law_draw, od__law_draw, .func (PySem.W.fnOf "_law_draw" "_law_draw" (defArgs s__law_draw) (defBody s__law_draw) (defScope s__law_draw) .none kV__law_draw dc__law_draw pm__law_draw an__law_draw cd__law_draw ct__law_draw), sl__law_draw⟩)
    (c__law_draw : PySem.W.codeIn K cd__law_draw "_law_draw" = true)
    (k__law_draw : PySem.W.keepIn K (.ref f__law_draw) = true)
    (a__law_pick : PySem.W.nsIn K mainGlobals "_law_pick" = some (some (.ref f__law_pick)))
    (l__law_pick : K.lookup f__law_pick = some ⟨oc__law_pick, od__law_pick, .func (PySem.W.fnOf "_law_pick" "_law_pick" (defArgs s__law_pick) (defBody s__law_pick) (defScope s__law_pick) .none kV__law_pick dc__law_pick pm__law_pick an__law_pick cd__law_pick ct__law_pick), sl__law_pick⟩)
    (c__law_pick : PySem.W.codeIn K cd__law_pick "_law_pick" = true)
    (k__law_pick : PySem.W.keepIn K (.ref f__law_pick) = true)
    (a__law_things : PySem.W.nsIn K mainGlobals "_law_things" = some (some (.ref f__law_things)))
    (l__law_things : K.lookup f__law_things = some ⟨oc__law_things, od__law_things, .func (PySem.W.fnOf "_law_things" "_law_things" (defArgs s__law_things) (defBody s__law_things) (defScope s__law_things) .none kV__law_things dc__law_things pm__law_things an__law_things cd__law_things ct__law_things), sl__law_things⟩)
    (c__law_things : PySem.W.codeIn K cd__law_things "_law_things" = true)
    (k__law_things : PySem.W.keepIn K (.ref f__law_things) = true)
    (a__law_made : PySem.W.nsIn K mainGlobals "_law_made" = some (some (.ref f__law_made)))
    (l__law_made : K.lookup f__law_made = some ⟨oc__law_made, od__law_made, .func (PySem.W.fnOf "_law_made" "_law_made" (defArgs s__law_made) (defBody s__law_made) (defScope s__law_made) .none kV__law_made dc__law_made pm__law_made an__law_made cd__law_made ct__law_made), sl__law_made⟩)
    (c__law_made : PySem.W.codeIn K cd__law_made "_law_made" = true)
    (k__law_made : PySem.W.keepIn K (.ref f__law_made) = true)
    (a__law_kept : PySem.W.nsIn K mainGlobals "_law_kept" = some (some (.ref f__law_kept)))
    (l__law_kept : K.lookup f__law_kept = some ⟨oc__law_kept, od__law_kept, .func (PySem.W.fnOf "_law_kept" "_law_kept" (defArgs s__law_kept) (defBody s__law_kept) (defScope s__law_kept) .none kV__law_kept dc__law_kept pm__law_kept an__law_kept cd__law_kept ct__law_kept), sl__law_kept⟩)
    (c__law_kept : PySem.W.codeIn K cd__law_kept "_law_kept" = true)
    (k__law_kept : PySem.W.keepIn K (.ref f__law_kept) = true)
    (a__law_classes : PySem.W.nsIn K mainGlobals "_law_classes" = some (some (.ref f__law_classes)))
    (l__law_classes : K.lookup f__law_classes = some ⟨oc__law_classes, od__law_classes, .func (PySem.W.fnOf "_law_classes" "_law_classes" (defArgs s__law_classes) (defBody s__law_classes) (defScope s__law_classes) .none kV__law_classes dc__law_classes pm__law_classes an__law_classes cd__law_classes ct__law_classes), sl__law_classes⟩)
    (c__law_classes : PySem.W.codeIn K cd__law_classes "_law_classes" = true)
    (k__law_classes : PySem.W.keepIn K (.ref f__law_classes) = true)
    (a__law_raised : PySem.W.nsIn K mainGlobals "_law_raised" = some (some (.ref f__law_raised)))
    (l__law_raised : K.lookup f__law_raised = some ⟨oc__law_raised, od__law_raised, .func (PySem.W.fnOf "_law_raised" "_law_raised" (defArgs s__law_raised) (defBody s__law_raised) (defScope s__law_raised) .none kV__law_raised dc__law_raised pm__law_raised an__law_raised cd__law_raised ct__law_raised), sl__law_raised⟩)
    (c__law_raised : PySem.W.codeIn K cd__law_raised "_law_raised" = true)
    (k__law_raised : PySem.W.keepIn K (.ref f__law_raised) = true)
    (a__law_right : PySem.W.nsIn K mainGlobals "_law_right" = some (some (.ref f__law_right)))
    (l__law_right : K.lookup f__law_right = some ⟨oc__law_right, od__law_right, .func (PySem.W.fnOf "_law_right" "_law_right" (defArgs s__law_right) (defBody s__law_right) (defScope s__law_right) .none kV__law_right dc__law_right pm__law_right an__law_right cd__law_right ct__law_right), sl__law_right⟩)
    (c__law_right : PySem.W.codeIn K cd__law_right "_law_right" = true)
    (k__law_right : PySem.W.keepIn K (.ref f__law_right) = true)
    (a_law : PySem.W.nsIn K mainGlobals "law" = some (some (.ref f_law)))
    (l_law : K.lookup f_law = some ⟨oc_law, od_law, .func (PySem.W.fnOf "law" "law" (defArgs s_law) (defBody s_law) (defScope s_law) .none kV_law dc_law pm_law an_law cd_law ct_law), sl_law⟩)
    (c_law : PySem.W.codeIn K cd_law "law" = true)
    (k_law : PySem.W.keepIn K (.ref f_law) = true)
    (ga_NoMember : PySem.W.findIn K (.ref C_NoMember) "__getattribute__" = some (some (.builtin "BaseException.__getattribute__")))
    (gg_NoMember : PySem.W.findIn K (.ref C_NoMember) "__getattr__" = some none)
    (ex_NoMember : PySem.W.subIn K (.ref C_NoMember) (.type "BaseException") = some true)
    (hd_NoMember : PySem.W.hasDictIn K C_NoMember = true)
    (ty_NoMember : PySem.W.typeIn K (.ref C_NoMember) = some (.type "type"))
    (kc_NoMember : PySem.W.keepIn K (.ref C_NoMember) = true)
    (ha_NoMember : PySem.W.findIn K (.ref C_NoMember) "__class__" = some (some (.builtin "object.__class__")))
    (hm_NoMember : PySem.W.mroIn K C_NoMember (.type "object") = some true)
    (xL_NoMember : K.lookup C_NoMember = some (excClassObj nm_NoMember q_NoMember C_NoMember N_NoMember bs_NoMember [.ref C_LotError, .type "ValueError", .type "Exception", .type "BaseException", .type "object"] true sn_NoMember sub_NoMember ab_NoMember col_NoMember dd_NoMember m0_NoMember m1_NoMember m2_NoMember m3_NoMember m5_NoMember "ValueError.__new__"))
    (sa_NoMember : PySem.W.findIn K (.ref C_NoMember) "__setattr__" = some (some (.builtin "object.__setattr__")))
    (t_NoMember : PySem.W.typeIn K (.ref f_NoMember___init__) = some (.type "function"))
    (no_NoMember_name : PySem.W.findIn K (.ref C_NoMember) "name" = some none)
    (ga_NoDrawing : PySem.W.findIn K (.ref C_NoDrawing) "__getattribute__" = some (some (.builtin "BaseException.__getattribute__")))
    (gg_NoDrawing : PySem.W.findIn K (.ref C_NoDrawing) "__getattr__" = some none)
    (ex_NoDrawing : PySem.W.subIn K (.ref C_NoDrawing) (.type "BaseException") = some true)
    (hd_NoDrawing : PySem.W.hasDictIn K C_NoDrawing = true)
    (ty_NoDrawing : PySem.W.typeIn K (.ref C_NoDrawing) = some (.type "type"))
    (kc_NoDrawing : PySem.W.keepIn K (.ref C_NoDrawing) = true)
    (ha_NoDrawing : PySem.W.findIn K (.ref C_NoDrawing) "__class__" = some (some (.builtin "object.__class__")))
    (hm_NoDrawing : PySem.W.mroIn K C_NoDrawing (.type "object") = some true)
    (xL_NoDrawing : K.lookup C_NoDrawing = some (excClassObj nm_NoDrawing q_NoDrawing C_NoDrawing N_NoDrawing bs_NoDrawing [.ref C_LotError, .type "ValueError", .type "Exception", .type "BaseException", .type "object"] true sn_NoDrawing sub_NoDrawing ab_NoDrawing col_NoDrawing dd_NoDrawing m0_NoDrawing m1_NoDrawing m2_NoDrawing m3_NoDrawing m5_NoDrawing "ValueError.__new__"))
    (sa_NoDrawing : PySem.W.findIn K (.ref C_NoDrawing) "__setattr__" = some (some (.builtin "object.__setattr__")))
    (t_NoDrawing : PySem.W.typeIn K (.ref f_NoDrawing___init__) = some (.type "function"))
    (no_NoDrawing_thing : PySem.W.findIn K (.ref C_NoDrawing) "thing" = some none)
    (ga_TooFew : PySem.W.findIn K (.ref C_TooFew) "__getattribute__" = some (some (.builtin "BaseException.__getattribute__")))
    (gg_TooFew : PySem.W.findIn K (.ref C_TooFew) "__getattr__" = some none)
    (ex_TooFew : PySem.W.subIn K (.ref C_TooFew) (.type "BaseException") = some true)
    (hd_TooFew : PySem.W.hasDictIn K C_TooFew = true)
    (ty_TooFew : PySem.W.typeIn K (.ref C_TooFew) = some (.type "type"))
    (kc_TooFew : PySem.W.keepIn K (.ref C_TooFew) = true)
    (ha_TooFew : PySem.W.findIn K (.ref C_TooFew) "__class__" = some (some (.builtin "object.__class__")))
    (hm_TooFew : PySem.W.mroIn K C_TooFew (.type "object") = some true)
    (xL_TooFew : K.lookup C_TooFew = some (excClassObj nm_TooFew q_TooFew C_TooFew N_TooFew bs_TooFew [.ref C_LotError, .type "ValueError", .type "Exception", .type "BaseException", .type "object"] true sn_TooFew sub_TooFew ab_TooFew col_TooFew dd_TooFew m0_TooFew m1_TooFew m2_TooFew m3_TooFew m5_TooFew "ValueError.__new__"))
    (sa_TooFew : PySem.W.findIn K (.ref C_TooFew) "__setattr__" = some (some (.builtin "object.__setattr__")))
    (t_TooFew : PySem.W.typeIn K (.ref f_TooFew___init__) = some (.type "function"))
    (no_TooFew_lot : PySem.W.findIn K (.ref C_TooFew) "lot" = some none)
    (ga_NoNumber : PySem.W.findIn K (.ref C_NoNumber) "__getattribute__" = some (some (.builtin "BaseException.__getattribute__")))
    (gg_NoNumber : PySem.W.findIn K (.ref C_NoNumber) "__getattr__" = some none)
    (ex_NoNumber : PySem.W.subIn K (.ref C_NoNumber) (.type "BaseException") = some true)
    (hd_NoNumber : PySem.W.hasDictIn K C_NoNumber = true)
    (ty_NoNumber : PySem.W.typeIn K (.ref C_NoNumber) = some (.type "type"))
    (kc_NoNumber : PySem.W.keepIn K (.ref C_NoNumber) = true)
    (ha_NoNumber : PySem.W.findIn K (.ref C_NoNumber) "__class__" = some (some (.builtin "object.__class__")))
    (hm_NoNumber : PySem.W.mroIn K C_NoNumber (.type "object") = some true)
    (xL_NoNumber : K.lookup C_NoNumber = some (excClassObj nm_NoNumber q_NoNumber C_NoNumber N_NoNumber bs_NoNumber [.ref C_LotError, .type "ValueError", .type "Exception", .type "BaseException", .type "object"] true sn_NoNumber sub_NoNumber ab_NoNumber col_NoNumber dd_NoNumber m0_NoNumber m1_NoNumber m2_NoNumber m3_NoNumber m5_NoNumber "ValueError.__new__"))
    (sa_NoNumber : PySem.W.findIn K (.ref C_NoNumber) "__setattr__" = some (some (.builtin "object.__setattr__")))
    (t_NoNumber : PySem.W.typeIn K (.ref f_NoNumber___init__) = some (.type "function"))
    (no_NoNumber_number : PySem.W.findIn K (.ref C_NoNumber) "number" = some none)
    (ga_TooMany : PySem.W.findIn K (.ref C_TooMany) "__getattribute__" = some (some (.builtin "BaseException.__getattribute__")))
    (gg_TooMany : PySem.W.findIn K (.ref C_TooMany) "__getattr__" = some none)
    (ex_TooMany : PySem.W.subIn K (.ref C_TooMany) (.type "BaseException") = some true)
    (hd_TooMany : PySem.W.hasDictIn K C_TooMany = true)
    (ty_TooMany : PySem.W.typeIn K (.ref C_TooMany) = some (.type "type"))
    (kc_TooMany : PySem.W.keepIn K (.ref C_TooMany) = true)
    (ha_TooMany : PySem.W.findIn K (.ref C_TooMany) "__class__" = some (some (.builtin "object.__class__")))
    (hm_TooMany : PySem.W.mroIn K C_TooMany (.type "object") = some true)
    (xL_TooMany : K.lookup C_TooMany = some (excClassObj nm_TooMany q_TooMany C_TooMany N_TooMany bs_TooMany [.ref C_LotError, .type "ValueError", .type "Exception", .type "BaseException", .type "object"] true sn_TooMany sub_TooMany ab_TooMany col_TooMany dd_TooMany m0_TooMany m1_TooMany m2_TooMany m3_TooMany m5_TooMany "ValueError.__new__"))
    (sa_TooMany : PySem.W.findIn K (.ref C_TooMany) "__setattr__" = some (some (.builtin "object.__setattr__")))
    (t_TooMany : PySem.W.typeIn K (.ref f_TooMany___init__) = some (.type "function"))
    (no_TooMany_many : PySem.W.findIn K (.ref C_TooMany) "many" = some none)
    (ga_Twice : PySem.W.findIn K (.ref C_Twice) "__getattribute__" = some (some (.builtin "BaseException.__getattribute__")))
    (gg_Twice : PySem.W.findIn K (.ref C_Twice) "__getattr__" = some none)
    (ex_Twice : PySem.W.subIn K (.ref C_Twice) (.type "BaseException") = some true)
    (hd_Twice : PySem.W.hasDictIn K C_Twice = true)
    (ty_Twice : PySem.W.typeIn K (.ref C_Twice) = some (.type "type"))
    (kc_Twice : PySem.W.keepIn K (.ref C_Twice) = true)
    (ha_Twice : PySem.W.findIn K (.ref C_Twice) "__class__" = some (some (.builtin "object.__class__")))
    (hm_Twice : PySem.W.mroIn K C_Twice (.type "object") = some true)
    (xL_Twice : K.lookup C_Twice = some (excClassObj nm_Twice q_Twice C_Twice N_Twice bs_Twice [.ref C_LotError, .type "ValueError", .type "Exception", .type "BaseException", .type "object"] true sn_Twice sub_Twice ab_Twice col_Twice dd_Twice m0_Twice m1_Twice m2_Twice m3_Twice m5_Twice "ValueError.__new__"))
    (sa_Twice : PySem.W.findIn K (.ref C_Twice) "__setattr__" = some (some (.builtin "object.__setattr__")))
    (t_Twice : PySem.W.typeIn K (.ref f_Twice___init__) = some (.type "function"))
    (no_Twice_name : PySem.W.findIn K (.ref C_Twice) "name" = some none)
    (ga_NoText : PySem.W.findIn K (.ref C_NoText) "__getattribute__" = some (some (.builtin "BaseException.__getattribute__")))
    (gg_NoText : PySem.W.findIn K (.ref C_NoText) "__getattr__" = some none)
    (ex_NoText : PySem.W.subIn K (.ref C_NoText) (.type "BaseException") = some true)
    (hd_NoText : PySem.W.hasDictIn K C_NoText = true)
    (ty_NoText : PySem.W.typeIn K (.ref C_NoText) = some (.type "type"))
    (kc_NoText : PySem.W.keepIn K (.ref C_NoText) = true)
    (ha_NoText : PySem.W.findIn K (.ref C_NoText) "__class__" = some (some (.builtin "object.__class__")))
    (hm_NoText : PySem.W.mroIn K C_NoText (.type "object") = some true)
    (xL_NoText : K.lookup C_NoText = some (excClassObj nm_NoText q_NoText C_NoText N_NoText bs_NoText [.ref C_LotError, .type "ValueError", .type "Exception", .type "BaseException", .type "object"] true sn_NoText sub_NoText ab_NoText col_NoText dd_NoText m0_NoText m1_NoText m2_NoText m3_NoText m5_NoText "ValueError.__new__"))
    (sa_NoText : PySem.W.findIn K (.ref C_NoText) "__setattr__" = some (some (.builtin "object.__setattr__")))
    (t_NoText : PySem.W.typeIn K (.ref f_NoText___init__) = some (.type "function"))
    (no_NoText_row : PySem.W.findIn K (.ref C_NoText) "row" = some none)
    (ga_NoBar : PySem.W.findIn K (.ref C_NoBar) "__getattribute__" = some (some (.builtin "BaseException.__getattribute__")))
    (gg_NoBar : PySem.W.findIn K (.ref C_NoBar) "__getattr__" = some none)
    (ex_NoBar : PySem.W.subIn K (.ref C_NoBar) (.type "BaseException") = some true)
    (hd_NoBar : PySem.W.hasDictIn K C_NoBar = true)
    (ty_NoBar : PySem.W.typeIn K (.ref C_NoBar) = some (.type "type"))
    (kc_NoBar : PySem.W.keepIn K (.ref C_NoBar) = true)
    (ha_NoBar : PySem.W.findIn K (.ref C_NoBar) "__class__" = some (some (.builtin "object.__class__")))
    (hm_NoBar : PySem.W.mroIn K C_NoBar (.type "object") = some true)
    (xL_NoBar : K.lookup C_NoBar = some (excClassObj nm_NoBar q_NoBar C_NoBar N_NoBar bs_NoBar [.ref C_LotError, .type "ValueError", .type "Exception", .type "BaseException", .type "object"] true sn_NoBar sub_NoBar ab_NoBar col_NoBar dd_NoBar m0_NoBar m1_NoBar m2_NoBar m3_NoBar m5_NoBar "ValueError.__new__"))
    (sa_NoBar : PySem.W.findIn K (.ref C_NoBar) "__setattr__" = some (some (.builtin "object.__setattr__")))
    (t_NoBar : PySem.W.typeIn K (.ref f_NoBar___init__) = some (.type "function"))
    (no_NoBar_giver : PySem.W.findIn K (.ref C_NoBar) "giver" = some none)
    (no_NoBar_taker : PySem.W.findIn K (.ref C_NoBar) "taker" = some none)
    (ga_NoYear : PySem.W.findIn K (.ref C_NoYear) "__getattribute__" = some (some (.builtin "BaseException.__getattribute__")))
    (gg_NoYear : PySem.W.findIn K (.ref C_NoYear) "__getattr__" = some none)
    (ex_NoYear : PySem.W.subIn K (.ref C_NoYear) (.type "BaseException") = some true)
    (hd_NoYear : PySem.W.hasDictIn K C_NoYear = true)
    (ty_NoYear : PySem.W.typeIn K (.ref C_NoYear) = some (.type "type"))
    (kc_NoYear : PySem.W.keepIn K (.ref C_NoYear) = true)
    (ha_NoYear : PySem.W.findIn K (.ref C_NoYear) "__class__" = some (some (.builtin "object.__class__")))
    (hm_NoYear : PySem.W.mroIn K C_NoYear (.type "object") = some true)
    (xi_NoYear : PySem.W.excIn K C_NoYear ([.type "ValueError", .type "Exception", .type "BaseException", .type "object"]) "ValueError.__new__" = true)
    (ga_NoBack : PySem.W.findIn K (.ref C_NoBack) "__getattribute__" = some (some (.builtin "BaseException.__getattribute__")))
    (gg_NoBack : PySem.W.findIn K (.ref C_NoBack) "__getattr__" = some none)
    (ex_NoBack : PySem.W.subIn K (.ref C_NoBack) (.type "BaseException") = some true)
    (hd_NoBack : PySem.W.hasDictIn K C_NoBack = true)
    (ty_NoBack : PySem.W.typeIn K (.ref C_NoBack) = some (.type "type"))
    (kc_NoBack : PySem.W.keepIn K (.ref C_NoBack) = true)
    (ha_NoBack : PySem.W.findIn K (.ref C_NoBack) "__class__" = some (some (.builtin "object.__class__")))
    (hm_NoBack : PySem.W.mroIn K C_NoBack (.type "object") = some true)
    (xi_NoBack : PySem.W.excIn K C_NoBack ([.type "ValueError", .type "Exception", .type "BaseException", .type "object"]) "ValueError.__new__" = true)
    (ga_NoRow : PySem.W.findIn K (.ref C_NoRow) "__getattribute__" = some (some (.builtin "BaseException.__getattribute__")))
    (gg_NoRow : PySem.W.findIn K (.ref C_NoRow) "__getattr__" = some none)
    (ex_NoRow : PySem.W.subIn K (.ref C_NoRow) (.type "BaseException") = some true)
    (hd_NoRow : PySem.W.hasDictIn K C_NoRow = true)
    (ty_NoRow : PySem.W.typeIn K (.ref C_NoRow) = some (.type "type"))
    (kc_NoRow : PySem.W.keepIn K (.ref C_NoRow) = true)
    (ha_NoRow : PySem.W.findIn K (.ref C_NoRow) "__class__" = some (some (.builtin "object.__class__")))
    (hm_NoRow : PySem.W.mroIn K C_NoRow (.type "object") = some true)
    (xi_NoRow : PySem.W.excIn K C_NoRow ([.type "ValueError", .type "Exception", .type "BaseException", .type "object"]) "ValueError.__new__" = true)
    (ga_LotError : PySem.W.findIn K (.ref C_LotError) "__getattribute__" = some (some (.builtin "BaseException.__getattribute__")))
    (gg_LotError : PySem.W.findIn K (.ref C_LotError) "__getattr__" = some none)
    (ex_LotError : PySem.W.subIn K (.ref C_LotError) (.type "BaseException") = some true)
    (hd_LotError : PySem.W.hasDictIn K C_LotError = true)
    (ty_LotError : PySem.W.typeIn K (.ref C_LotError) = some (.type "type"))
    (kc_LotError : PySem.W.keepIn K (.ref C_LotError) = true)
    (ha_LotError : PySem.W.findIn K (.ref C_LotError) "__class__" = some (some (.builtin "object.__class__")))
    (hm_LotError : PySem.W.mroIn K C_LotError (.type "object") = some true)
    (li1 : PySem.W.readsIn K C_LotError (.type "type") = true)
    (li2 : PySem.W.specialIn K (.ref C_LotError) "__getattribute__" = some (some (.builtin "type.__getattribute__")))
    (li3 : PySem.W.findCls K (.ref C_LotError) (.type "type") "__init__" = some (.val (.builtin "ValueError.__init__")))
    (ko_NoMember_NoMember : PySem.W.kitOne K (.ref C_NoMember) (.ref C_NoMember) = some true)
    (ko_NoMember_NoDrawing : PySem.W.kitOne K (.ref C_NoMember) (.ref C_NoDrawing) = some false)
    (ko_NoMember_TooFew : PySem.W.kitOne K (.ref C_NoMember) (.ref C_TooFew) = some false)
    (ko_NoMember_NoNumber : PySem.W.kitOne K (.ref C_NoMember) (.ref C_NoNumber) = some false)
    (ko_NoMember_TooMany : PySem.W.kitOne K (.ref C_NoMember) (.ref C_TooMany) = some false)
    (ko_NoMember_Twice : PySem.W.kitOne K (.ref C_NoMember) (.ref C_Twice) = some false)
    (ko_NoMember_NoText : PySem.W.kitOne K (.ref C_NoMember) (.ref C_NoText) = some false)
    (ko_NoMember_NoBar : PySem.W.kitOne K (.ref C_NoMember) (.ref C_NoBar) = some false)
    (ko_NoMember_NoYear : PySem.W.kitOne K (.ref C_NoMember) (.ref C_NoYear) = some false)
    (ko_NoMember_NoBack : PySem.W.kitOne K (.ref C_NoMember) (.ref C_NoBack) = some false)
    (ko_NoMember_NoRow : PySem.W.kitOne K (.ref C_NoMember) (.ref C_NoRow) = some false)
    (ko_NoMember_LotError : PySem.W.kitOne K (.ref C_NoMember) (.ref C_LotError) = some true)
    (ko_NoMember_ValueError : PySem.W.kitOne K (.ref C_NoMember) (.type "ValueError") = some true)
    (ko_NoDrawing_NoMember : PySem.W.kitOne K (.ref C_NoDrawing) (.ref C_NoMember) = some false)
    (ko_NoDrawing_NoDrawing : PySem.W.kitOne K (.ref C_NoDrawing) (.ref C_NoDrawing) = some true)
    (ko_NoDrawing_TooFew : PySem.W.kitOne K (.ref C_NoDrawing) (.ref C_TooFew) = some false)
    (ko_NoDrawing_NoNumber : PySem.W.kitOne K (.ref C_NoDrawing) (.ref C_NoNumber) = some false)
    (ko_NoDrawing_TooMany : PySem.W.kitOne K (.ref C_NoDrawing) (.ref C_TooMany) = some false)
    (ko_NoDrawing_Twice : PySem.W.kitOne K (.ref C_NoDrawing) (.ref C_Twice) = some false)
    (ko_NoDrawing_NoText : PySem.W.kitOne K (.ref C_NoDrawing) (.ref C_NoText) = some false)
    (ko_NoDrawing_NoBar : PySem.W.kitOne K (.ref C_NoDrawing) (.ref C_NoBar) = some false)
    (ko_NoDrawing_NoYear : PySem.W.kitOne K (.ref C_NoDrawing) (.ref C_NoYear) = some false)
    (ko_NoDrawing_NoBack : PySem.W.kitOne K (.ref C_NoDrawing) (.ref C_NoBack) = some false)
    (ko_NoDrawing_NoRow : PySem.W.kitOne K (.ref C_NoDrawing) (.ref C_NoRow) = some false)
    (ko_NoDrawing_LotError : PySem.W.kitOne K (.ref C_NoDrawing) (.ref C_LotError) = some true)
    (ko_NoDrawing_ValueError : PySem.W.kitOne K (.ref C_NoDrawing) (.type "ValueError") = some true)
    (ko_TooFew_NoMember : PySem.W.kitOne K (.ref C_TooFew) (.ref C_NoMember) = some false)
    (ko_TooFew_NoDrawing : PySem.W.kitOne K (.ref C_TooFew) (.ref C_NoDrawing) = some false)
    (ko_TooFew_TooFew : PySem.W.kitOne K (.ref C_TooFew) (.ref C_TooFew) = some true)
    (ko_TooFew_NoNumber : PySem.W.kitOne K (.ref C_TooFew) (.ref C_NoNumber) = some false)
    (ko_TooFew_TooMany : PySem.W.kitOne K (.ref C_TooFew) (.ref C_TooMany) = some false)
    (ko_TooFew_Twice : PySem.W.kitOne K (.ref C_TooFew) (.ref C_Twice) = some false)
    (ko_TooFew_NoText : PySem.W.kitOne K (.ref C_TooFew) (.ref C_NoText) = some false)
    (ko_TooFew_NoBar : PySem.W.kitOne K (.ref C_TooFew) (.ref C_NoBar) = some false)
    (ko_TooFew_NoYear : PySem.W.kitOne K (.ref C_TooFew) (.ref C_NoYear) = some false)
    (ko_TooFew_NoBack : PySem.W.kitOne K (.ref C_TooFew) (.ref C_NoBack) = some false)
    (ko_TooFew_NoRow : PySem.W.kitOne K (.ref C_TooFew) (.ref C_NoRow) = some false)
    (ko_TooFew_LotError : PySem.W.kitOne K (.ref C_TooFew) (.ref C_LotError) = some true)
    (ko_TooFew_ValueError : PySem.W.kitOne K (.ref C_TooFew) (.type "ValueError") = some true)
    (ko_NoNumber_NoMember : PySem.W.kitOne K (.ref C_NoNumber) (.ref C_NoMember) = some false)
    (ko_NoNumber_NoDrawing : PySem.W.kitOne K (.ref C_NoNumber) (.ref C_NoDrawing) = some false)
    (ko_NoNumber_TooFew : PySem.W.kitOne K (.ref C_NoNumber) (.ref C_TooFew) = some false)
    (ko_NoNumber_NoNumber : PySem.W.kitOne K (.ref C_NoNumber) (.ref C_NoNumber) = some true)
    (ko_NoNumber_TooMany : PySem.W.kitOne K (.ref C_NoNumber) (.ref C_TooMany) = some false)
    (ko_NoNumber_Twice : PySem.W.kitOne K (.ref C_NoNumber) (.ref C_Twice) = some false)
    (ko_NoNumber_NoText : PySem.W.kitOne K (.ref C_NoNumber) (.ref C_NoText) = some false)
    (ko_NoNumber_NoBar : PySem.W.kitOne K (.ref C_NoNumber) (.ref C_NoBar) = some false)
    (ko_NoNumber_NoYear : PySem.W.kitOne K (.ref C_NoNumber) (.ref C_NoYear) = some false)
    (ko_NoNumber_NoBack : PySem.W.kitOne K (.ref C_NoNumber) (.ref C_NoBack) = some false)
    (ko_NoNumber_NoRow : PySem.W.kitOne K (.ref C_NoNumber) (.ref C_NoRow) = some false)
    (ko_NoNumber_LotError : PySem.W.kitOne K (.ref C_NoNumber) (.ref C_LotError) = some true)
    (ko_NoNumber_ValueError : PySem.W.kitOne K (.ref C_NoNumber) (.type "ValueError") = some true)
    (ko_TooMany_NoMember : PySem.W.kitOne K (.ref C_TooMany) (.ref C_NoMember) = some false)
    (ko_TooMany_NoDrawing : PySem.W.kitOne K (.ref C_TooMany) (.ref C_NoDrawing) = some false)
    (ko_TooMany_TooFew : PySem.W.kitOne K (.ref C_TooMany) (.ref C_TooFew) = some false)
    (ko_TooMany_NoNumber : PySem.W.kitOne K (.ref C_TooMany) (.ref C_NoNumber) = some false)
    (ko_TooMany_TooMany : PySem.W.kitOne K (.ref C_TooMany) (.ref C_TooMany) = some true)
    (ko_TooMany_Twice : PySem.W.kitOne K (.ref C_TooMany) (.ref C_Twice) = some false)
    (ko_TooMany_NoText : PySem.W.kitOne K (.ref C_TooMany) (.ref C_NoText) = some false)
    (ko_TooMany_NoBar : PySem.W.kitOne K (.ref C_TooMany) (.ref C_NoBar) = some false)
    (ko_TooMany_NoYear : PySem.W.kitOne K (.ref C_TooMany) (.ref C_NoYear) = some false)
    (ko_TooMany_NoBack : PySem.W.kitOne K (.ref C_TooMany) (.ref C_NoBack) = some false)
    (ko_TooMany_NoRow : PySem.W.kitOne K (.ref C_TooMany) (.ref C_NoRow) = some false)
    (ko_TooMany_LotError : PySem.W.kitOne K (.ref C_TooMany) (.ref C_LotError) = some true)
    (ko_TooMany_ValueError : PySem.W.kitOne K (.ref C_TooMany) (.type "ValueError") = some true)
    (ko_Twice_NoMember : PySem.W.kitOne K (.ref C_Twice) (.ref C_NoMember) = some false)
    (ko_Twice_NoDrawing : PySem.W.kitOne K (.ref C_Twice) (.ref C_NoDrawing) = some false)
    (ko_Twice_TooFew : PySem.W.kitOne K (.ref C_Twice) (.ref C_TooFew) = some false)
    (ko_Twice_NoNumber : PySem.W.kitOne K (.ref C_Twice) (.ref C_NoNumber) = some false)
    (ko_Twice_TooMany : PySem.W.kitOne K (.ref C_Twice) (.ref C_TooMany) = some false)
    (ko_Twice_Twice : PySem.W.kitOne K (.ref C_Twice) (.ref C_Twice) = some true)
    (ko_Twice_NoText : PySem.W.kitOne K (.ref C_Twice) (.ref C_NoText) = some false)
    (ko_Twice_NoBar : PySem.W.kitOne K (.ref C_Twice) (.ref C_NoBar) = some false)
    (ko_Twice_NoYear : PySem.W.kitOne K (.ref C_Twice) (.ref C_NoYear) = some false)
    (ko_Twice_NoBack : PySem.W.kitOne K (.ref C_Twice) (.ref C_NoBack) = some false)
    (ko_Twice_NoRow : PySem.W.kitOne K (.ref C_Twice) (.ref C_NoRow) = some false)
    (ko_Twice_LotError : PySem.W.kitOne K (.ref C_Twice) (.ref C_LotError) = some true)
    (ko_Twice_ValueError : PySem.W.kitOne K (.ref C_Twice) (.type "ValueError") = some true)
    (ko_NoText_NoMember : PySem.W.kitOne K (.ref C_NoText) (.ref C_NoMember) = some false)
    (ko_NoText_NoDrawing : PySem.W.kitOne K (.ref C_NoText) (.ref C_NoDrawing) = some false)
    (ko_NoText_TooFew : PySem.W.kitOne K (.ref C_NoText) (.ref C_TooFew) = some false)
    (ko_NoText_NoNumber : PySem.W.kitOne K (.ref C_NoText) (.ref C_NoNumber) = some false)
    (ko_NoText_TooMany : PySem.W.kitOne K (.ref C_NoText) (.ref C_TooMany) = some false)
    (ko_NoText_Twice : PySem.W.kitOne K (.ref C_NoText) (.ref C_Twice) = some false)
    (ko_NoText_NoText : PySem.W.kitOne K (.ref C_NoText) (.ref C_NoText) = some true)
    (ko_NoText_NoBar : PySem.W.kitOne K (.ref C_NoText) (.ref C_NoBar) = some false)
    (ko_NoText_NoYear : PySem.W.kitOne K (.ref C_NoText) (.ref C_NoYear) = some false)
    (ko_NoText_NoBack : PySem.W.kitOne K (.ref C_NoText) (.ref C_NoBack) = some false)
    (ko_NoText_NoRow : PySem.W.kitOne K (.ref C_NoText) (.ref C_NoRow) = some false)
    (ko_NoText_LotError : PySem.W.kitOne K (.ref C_NoText) (.ref C_LotError) = some true)
    (ko_NoText_ValueError : PySem.W.kitOne K (.ref C_NoText) (.type "ValueError") = some true)
    (ko_NoBar_NoMember : PySem.W.kitOne K (.ref C_NoBar) (.ref C_NoMember) = some false)
    (ko_NoBar_NoDrawing : PySem.W.kitOne K (.ref C_NoBar) (.ref C_NoDrawing) = some false)
    (ko_NoBar_TooFew : PySem.W.kitOne K (.ref C_NoBar) (.ref C_TooFew) = some false)
    (ko_NoBar_NoNumber : PySem.W.kitOne K (.ref C_NoBar) (.ref C_NoNumber) = some false)
    (ko_NoBar_TooMany : PySem.W.kitOne K (.ref C_NoBar) (.ref C_TooMany) = some false)
    (ko_NoBar_Twice : PySem.W.kitOne K (.ref C_NoBar) (.ref C_Twice) = some false)
    (ko_NoBar_NoText : PySem.W.kitOne K (.ref C_NoBar) (.ref C_NoText) = some false)
    (ko_NoBar_NoBar : PySem.W.kitOne K (.ref C_NoBar) (.ref C_NoBar) = some true)
    (ko_NoBar_NoYear : PySem.W.kitOne K (.ref C_NoBar) (.ref C_NoYear) = some false)
    (ko_NoBar_NoBack : PySem.W.kitOne K (.ref C_NoBar) (.ref C_NoBack) = some false)
    (ko_NoBar_NoRow : PySem.W.kitOne K (.ref C_NoBar) (.ref C_NoRow) = some false)
    (ko_NoBar_LotError : PySem.W.kitOne K (.ref C_NoBar) (.ref C_LotError) = some true)
    (ko_NoBar_ValueError : PySem.W.kitOne K (.ref C_NoBar) (.type "ValueError") = some true)
    (ko_NoYear_NoMember : PySem.W.kitOne K (.ref C_NoYear) (.ref C_NoMember) = some false)
    (ko_NoYear_NoDrawing : PySem.W.kitOne K (.ref C_NoYear) (.ref C_NoDrawing) = some false)
    (ko_NoYear_TooFew : PySem.W.kitOne K (.ref C_NoYear) (.ref C_TooFew) = some false)
    (ko_NoYear_NoNumber : PySem.W.kitOne K (.ref C_NoYear) (.ref C_NoNumber) = some false)
    (ko_NoYear_TooMany : PySem.W.kitOne K (.ref C_NoYear) (.ref C_TooMany) = some false)
    (ko_NoYear_Twice : PySem.W.kitOne K (.ref C_NoYear) (.ref C_Twice) = some false)
    (ko_NoYear_NoText : PySem.W.kitOne K (.ref C_NoYear) (.ref C_NoText) = some false)
    (ko_NoYear_NoBar : PySem.W.kitOne K (.ref C_NoYear) (.ref C_NoBar) = some false)
    (ko_NoYear_NoYear : PySem.W.kitOne K (.ref C_NoYear) (.ref C_NoYear) = some true)
    (ko_NoYear_NoBack : PySem.W.kitOne K (.ref C_NoYear) (.ref C_NoBack) = some false)
    (ko_NoYear_NoRow : PySem.W.kitOne K (.ref C_NoYear) (.ref C_NoRow) = some false)
    (ko_NoYear_LotError : PySem.W.kitOne K (.ref C_NoYear) (.ref C_LotError) = some true)
    (ko_NoYear_ValueError : PySem.W.kitOne K (.ref C_NoYear) (.type "ValueError") = some true)
    (ko_NoBack_NoMember : PySem.W.kitOne K (.ref C_NoBack) (.ref C_NoMember) = some false)
    (ko_NoBack_NoDrawing : PySem.W.kitOne K (.ref C_NoBack) (.ref C_NoDrawing) = some false)
    (ko_NoBack_TooFew : PySem.W.kitOne K (.ref C_NoBack) (.ref C_TooFew) = some false)
    (ko_NoBack_NoNumber : PySem.W.kitOne K (.ref C_NoBack) (.ref C_NoNumber) = some false)
    (ko_NoBack_TooMany : PySem.W.kitOne K (.ref C_NoBack) (.ref C_TooMany) = some false)
    (ko_NoBack_Twice : PySem.W.kitOne K (.ref C_NoBack) (.ref C_Twice) = some false)
    (ko_NoBack_NoText : PySem.W.kitOne K (.ref C_NoBack) (.ref C_NoText) = some false)
    (ko_NoBack_NoBar : PySem.W.kitOne K (.ref C_NoBack) (.ref C_NoBar) = some false)
    (ko_NoBack_NoYear : PySem.W.kitOne K (.ref C_NoBack) (.ref C_NoYear) = some false)
    (ko_NoBack_NoBack : PySem.W.kitOne K (.ref C_NoBack) (.ref C_NoBack) = some true)
    (ko_NoBack_NoRow : PySem.W.kitOne K (.ref C_NoBack) (.ref C_NoRow) = some false)
    (ko_NoBack_LotError : PySem.W.kitOne K (.ref C_NoBack) (.ref C_LotError) = some true)
    (ko_NoBack_ValueError : PySem.W.kitOne K (.ref C_NoBack) (.type "ValueError") = some true)
    (ko_NoRow_NoMember : PySem.W.kitOne K (.ref C_NoRow) (.ref C_NoMember) = some false)
    (ko_NoRow_NoDrawing : PySem.W.kitOne K (.ref C_NoRow) (.ref C_NoDrawing) = some false)
    (ko_NoRow_TooFew : PySem.W.kitOne K (.ref C_NoRow) (.ref C_TooFew) = some false)
    (ko_NoRow_NoNumber : PySem.W.kitOne K (.ref C_NoRow) (.ref C_NoNumber) = some false)
    (ko_NoRow_TooMany : PySem.W.kitOne K (.ref C_NoRow) (.ref C_TooMany) = some false)
    (ko_NoRow_Twice : PySem.W.kitOne K (.ref C_NoRow) (.ref C_Twice) = some false)
    (ko_NoRow_NoText : PySem.W.kitOne K (.ref C_NoRow) (.ref C_NoText) = some false)
    (ko_NoRow_NoBar : PySem.W.kitOne K (.ref C_NoRow) (.ref C_NoBar) = some false)
    (ko_NoRow_NoYear : PySem.W.kitOne K (.ref C_NoRow) (.ref C_NoYear) = some false)
    (ko_NoRow_NoBack : PySem.W.kitOne K (.ref C_NoRow) (.ref C_NoBack) = some false)
    (ko_NoRow_NoRow : PySem.W.kitOne K (.ref C_NoRow) (.ref C_NoRow) = some true)
    (ko_NoRow_LotError : PySem.W.kitOne K (.ref C_NoRow) (.ref C_LotError) = some true)
    (ko_NoRow_ValueError : PySem.W.kitOne K (.ref C_NoRow) (.type "ValueError") = some true)
    (su_NoMember : PySem.W.subIn K (.ref C_NoMember) (.ref C_LotError) = some true)
    (su_NoDrawing : PySem.W.subIn K (.ref C_NoDrawing) (.ref C_LotError) = some true)
    (su_TooFew : PySem.W.subIn K (.ref C_TooFew) (.ref C_LotError) = some true)
    (su_NoNumber : PySem.W.subIn K (.ref C_NoNumber) (.ref C_LotError) = some true)
    (su_TooMany : PySem.W.subIn K (.ref C_TooMany) (.ref C_LotError) = some true)
    (su_Twice : PySem.W.subIn K (.ref C_Twice) (.ref C_LotError) = some true)
    (su_NoText : PySem.W.subIn K (.ref C_NoText) (.ref C_LotError) = some true)
    (su_NoBar : PySem.W.subIn K (.ref C_NoBar) (.ref C_LotError) = some true)
    (n_len : PySem.W.nsIn K mainGlobals "len" = some none)
    (n_abs : PySem.W.nsIn K mainGlobals "abs" = some none)
    (n_all : PySem.W.nsIn K mainGlobals "all" = some none)
    (n_repr : PySem.W.nsIn K mainGlobals "repr" = some none)
    (n_range : PySem.W.nsIn K mainGlobals "range" = some none)
    (n_isinstance : PySem.W.nsIn K mainGlobals "isinstance" = some none)
    (n_list : PySem.W.nsIn K mainGlobals "list" = some none)
    (n_ValueError : PySem.W.nsIn K mainGlobals "ValueError" = some none) : T08 K mg := {
  C_NoMember := C_NoMember
  C_NoDrawing := C_NoDrawing
  C_TooFew := C_TooFew
  C_NoNumber := C_NoNumber
  C_TooMany := C_TooMany
  C_Twice := C_Twice
  C_NoText := C_NoText
  C_NoBar := C_NoBar
  C_NoYear := C_NoYear
  C_NoBack := C_NoBack
  C_NoRow := C_NoRow
  C_LotError := C_LotError
  f_NoMember___init__ := f_NoMember___init__
  fd_NoMember___init__ := _
  F_NoMember___init__ := fun_mk (st := s_NoMember___init__) l_NoMember___init__ c_NoMember___init__ k_NoMember___init__
  b_NoMember___init__ := (fun_mk (st := s_NoMember___init__) l_NoMember___init__ c_NoMember___init__ k_NoMember___init__).binds (ps := ["self", "name"]) fun _ _ _ _ _ _ us hl => match us, hl with | [_, _], _ => rfl
  f_NoDrawing___init__ := f_NoDrawing___init__
  fd_NoDrawing___init__ := _
  F_NoDrawing___init__ := fun_mk (st := s_NoDrawing___init__) l_NoDrawing___init__ c_NoDrawing___init__ k_NoDrawing___init__
  b_NoDrawing___init__ := (fun_mk (st := s_NoDrawing___init__) l_NoDrawing___init__ c_NoDrawing___init__ k_NoDrawing___init__).binds (ps := ["self", "thing"]) fun _ _ _ _ _ _ us hl => match us, hl with | [_, _], _ => rfl
  f_TooFew___init__ := f_TooFew___init__
  fd_TooFew___init__ := _
  F_TooFew___init__ := fun_mk (st := s_TooFew___init__) l_TooFew___init__ c_TooFew___init__ k_TooFew___init__
  b_TooFew___init__ := (fun_mk (st := s_TooFew___init__) l_TooFew___init__ c_TooFew___init__ k_TooFew___init__).binds (ps := ["self", "lot"]) fun _ _ _ _ _ _ us hl => match us, hl with | [_, _], _ => rfl
  f_NoNumber___init__ := f_NoNumber___init__
  fd_NoNumber___init__ := _
  F_NoNumber___init__ := fun_mk (st := s_NoNumber___init__) l_NoNumber___init__ c_NoNumber___init__ k_NoNumber___init__
  b_NoNumber___init__ := (fun_mk (st := s_NoNumber___init__) l_NoNumber___init__ c_NoNumber___init__ k_NoNumber___init__).binds (ps := ["self", "number"]) fun _ _ _ _ _ _ us hl => match us, hl with | [_, _], _ => rfl
  f_TooMany___init__ := f_TooMany___init__
  fd_TooMany___init__ := _
  F_TooMany___init__ := fun_mk (st := s_TooMany___init__) l_TooMany___init__ c_TooMany___init__ k_TooMany___init__
  b_TooMany___init__ := (fun_mk (st := s_TooMany___init__) l_TooMany___init__ c_TooMany___init__ k_TooMany___init__).binds (ps := ["self", "many"]) fun _ _ _ _ _ _ us hl => match us, hl with | [_, _], _ => rfl
  f_Twice___init__ := f_Twice___init__
  fd_Twice___init__ := _
  F_Twice___init__ := fun_mk (st := s_Twice___init__) l_Twice___init__ c_Twice___init__ k_Twice___init__
  b_Twice___init__ := (fun_mk (st := s_Twice___init__) l_Twice___init__ c_Twice___init__ k_Twice___init__).binds (ps := ["self", "name"]) fun _ _ _ _ _ _ us hl => match us, hl with | [_, _], _ => rfl
  f_NoText___init__ := f_NoText___init__
  fd_NoText___init__ := _
  F_NoText___init__ := fun_mk (st := s_NoText___init__) l_NoText___init__ c_NoText___init__ k_NoText___init__
  b_NoText___init__ := (fun_mk (st := s_NoText___init__) l_NoText___init__ c_NoText___init__ k_NoText___init__).binds (ps := ["self", "row"]) fun _ _ _ _ _ _ us hl => match us, hl with | [_, _], _ => rfl
  f_NoBar___init__ := f_NoBar___init__
  fd_NoBar___init__ := _
  F_NoBar___init__ := fun_mk (st := s_NoBar___init__) l_NoBar___init__ c_NoBar___init__ k_NoBar___init__
  b_NoBar___init__ := (fun_mk (st := s_NoBar___init__) l_NoBar___init__ c_NoBar___init__ k_NoBar___init__).binds (ps := ["self", "giver", "taker"]) fun _ _ _ _ _ _ us hl => match us, hl with | [_, _, _], _ => rfl
  f__law_blend := f__law_blend
  fd__law_blend := _
  F__law_blend := fun_mk (st := s__law_blend) l__law_blend c__law_blend k__law_blend
  b__law_blend := (fun_mk (st := s__law_blend) l__law_blend c__law_blend k__law_blend).binds (ps := ["_law_sown", "_law_turn"]) fun _ _ _ _ _ _ us hl => match us, hl with | [_, _], _ => rfl
  mg__law_blend := PySem.W.mg_of X G a__law_blend
  f__law_pot := f__law_pot
  fd__law_pot := _
  F__law_pot := fun_mk (st := s__law_pot) l__law_pot c__law_pot k__law_pot
  b__law_pot := (fun_mk (st := s__law_pot) l__law_pot c__law_pot k__law_pot).binds (ps := ["_law_script"]) fun _ _ _ _ _ _ us hl => match us, hl with | [_], _ => rfl
  mg__law_pot := PySem.W.mg_of X G a__law_pot
  f__law_draw := f__law_draw
  fd__law_draw := _
  F__law_draw := fun_mk (st := s__law_draw) l__law_draw c__law_draw k__law_draw
  b__law_draw := (fun_mk (st := s__law_draw) l__law_draw c__law_draw k__law_draw).binds (ps := ["_law_pot_here", "_law_size"]) fun _ _ _ _ _ _ us hl => match us, hl with | [_, _], _ => rfl
  mg__law_draw := PySem.W.mg_of X G a__law_draw
  f__law_pick := f__law_pick
  fd__law_pick := _
  F__law_pick := fun_mk (st := s__law_pick) l__law_pick c__law_pick k__law_pick
  b__law_pick := (fun_mk (st := s__law_pick) l__law_pick c__law_pick k__law_pick).binds (ps := ["_law_pot_here", "_law_some"]) fun _ _ _ _ _ _ us hl => match us, hl with | [_, _], _ => rfl
  mg__law_pick := PySem.W.mg_of X G a__law_pick
  f__law_things := f__law_things
  fd__law_things := _
  F__law_things := fun_mk (st := s__law_things) l__law_things c__law_things k__law_things
  b__law_things := (fun_mk (st := s__law_things) l__law_things c__law_things k__law_things).binds (ps := ["_law_pot_here"]) fun _ _ _ _ _ _ us hl => match us, hl with | [_], _ => rfl
  mg__law_things := PySem.W.mg_of X G a__law_things
  f__law_made := f__law_made
  fd__law_made := _
  F__law_made := fun_mk (st := s__law_made) l__law_made c__law_made k__law_made
  b__law_made := (fun_mk (st := s__law_made) l__law_made c__law_made k__law_made).binds (ps := ["_law_way", "_law_held", "_law_by_name"]) fun _ _ _ _ _ _ us hl => match us, hl with | [_, _, _], _ => rfl
  mg__law_made := PySem.W.mg_of X G a__law_made
  f__law_kept := f__law_kept
  fd__law_kept := _
  F__law_kept := fun_mk (st := s__law_kept) l__law_kept c__law_kept k__law_kept
  b__law_kept := (fun_mk (st := s__law_kept) l__law_kept c__law_kept k__law_kept).binds (ps := ["_law_way", "_law_made_here"]) fun _ _ _ _ _ _ us hl => match us, hl with | [_, _], _ => rfl
  mg__law_kept := PySem.W.mg_of X G a__law_kept
  f__law_classes := f__law_classes
  fd__law_classes := _
  F__law_classes := fun_mk (st := s__law_classes) l__law_classes c__law_classes k__law_classes
  b__law_classes := (fun_mk (st := s__law_classes) l__law_classes c__law_classes k__law_classes).binds (ps := ["_law_made_here"]) fun _ _ _ _ _ _ us hl => match us, hl with | [_], _ => rfl
  mg__law_classes := PySem.W.mg_of X G a__law_classes
  f__law_raised := f__law_raised
  fd__law_raised := _
  F__law_raised := fun_mk (st := s__law_raised) l__law_raised c__law_raised k__law_raised
  b__law_raised := (fun_mk (st := s__law_raised) l__law_raised c__law_raised k__law_raised).binds (ps := ["_law_held"]) fun _ _ _ _ _ _ us hl => match us, hl with | [_], _ => rfl
  mg__law_raised := PySem.W.mg_of X G a__law_raised
  f__law_right := f__law_right
  fd__law_right := _
  F__law_right := fun_mk (st := s__law_right) l__law_right c__law_right k__law_right
  b__law_right := (fun_mk (st := s__law_right) l__law_right c__law_right k__law_right).binds (ps := ["_law_way", "_law_one", "_law_other"]) fun _ _ _ _ _ _ us hl => match us, hl with | [_, _, _], _ => rfl
  mg__law_right := PySem.W.mg_of X G a__law_right
  f_law := f_law
  fd_law := _
  F_law := fun_mk (st := s_law) l_law c_law k_law
  b_law := (fun_mk (st := s_law) l_law c_law k_law).binds (ps := ["_law_script"]) fun _ _ _ _ _ _ us hl => match us, hl with | [_], _ => rfl
  mg_law := PySem.W.mg_of X G a_law
  mg_NoMember := PySem.W.mg_of X G aC_NoMember
  kc_NoMember := kc_NoMember
  xf_NoMember := ⟨ga_NoMember, gg_NoMember, ex_NoMember, hd_NoMember⟩
  ec_NoMember := ⟨ga_NoMember, gg_NoMember, ex_NoMember, hd_NoMember, ha_NoMember, hn_, ht_, hm_NoMember⟩
  ex_NoMember := ex_NoMember
  ty_NoMember := ty_NoMember
  ox_NoMember := ⟨⟨nm_NoMember, q_NoMember, N_NoMember, bs_NoMember, _, sn_NoMember, sub_NoMember, ab_NoMember, col_NoMember, dd_NoMember, m0_NoMember, m1_NoMember, m2_NoMember, m3_NoMember, m5_NoMember, xL_NoMember, rfl⟩, sa_NoMember, ex_NoMember, ty_NoMember, kc_NoMember⟩
  no_NoMember_name := no_NoMember_name
  mkE_NoMember := ⟨⟨⟨nm_NoMember, q_NoMember, N_NoMember, bs_NoMember, _, sn_NoMember, sub_NoMember, ab_NoMember, col_NoMember, dd_NoMember, m0_NoMember, m1_NoMember, m2_NoMember, m3_NoMember, m5_NoMember, xL_NoMember, rfl⟩, sa_NoMember, ex_NoMember, ty_NoMember, kc_NoMember⟩, a_NoMember___init__, t_NoMember, (by intro g h; simp only [List.mem_cons, List.not_mem_nil, or_false] at h; first | (subst h; first | exact no_NoMember_name) | (rcases h with h | h <;> subst h <;> first | exact no_NoMember_name))⟩
  mg_NoDrawing := PySem.W.mg_of X G aC_NoDrawing
  kc_NoDrawing := kc_NoDrawing
  xf_NoDrawing := ⟨ga_NoDrawing, gg_NoDrawing, ex_NoDrawing, hd_NoDrawing⟩
  ec_NoDrawing := ⟨ga_NoDrawing, gg_NoDrawing, ex_NoDrawing, hd_NoDrawing, ha_NoDrawing, hn_, ht_, hm_NoDrawing⟩
  ex_NoDrawing := ex_NoDrawing
  ty_NoDrawing := ty_NoDrawing
  ox_NoDrawing := ⟨⟨nm_NoDrawing, q_NoDrawing, N_NoDrawing, bs_NoDrawing, _, sn_NoDrawing, sub_NoDrawing, ab_NoDrawing, col_NoDrawing, dd_NoDrawing, m0_NoDrawing, m1_NoDrawing, m2_NoDrawing, m3_NoDrawing, m5_NoDrawing, xL_NoDrawing, rfl⟩, sa_NoDrawing, ex_NoDrawing, ty_NoDrawing, kc_NoDrawing⟩
  no_NoDrawing_thing := no_NoDrawing_thing
  mkE_NoDrawing := ⟨⟨⟨nm_NoDrawing, q_NoDrawing, N_NoDrawing, bs_NoDrawing, _, sn_NoDrawing, sub_NoDrawing, ab_NoDrawing, col_NoDrawing, dd_NoDrawing, m0_NoDrawing, m1_NoDrawing, m2_NoDrawing, m3_NoDrawing, m5_NoDrawing, xL_NoDrawing, rfl⟩, sa_NoDrawing, ex_NoDrawing, ty_NoDrawing, kc_NoDrawing⟩, a_NoDrawing___init__, t_NoDrawing, (by intro g h; simp only [List.mem_cons, List.not_mem_nil, or_false] at h; first | (subst h; first | exact no_NoDrawing_thing) | (rcases h with h | h <;> subst h <;> first | exact no_NoDrawing_thing))⟩
  mg_TooFew := PySem.W.mg_of X G aC_TooFew
  kc_TooFew := kc_TooFew
  xf_TooFew := ⟨ga_TooFew, gg_TooFew, ex_TooFew, hd_TooFew⟩
  ec_TooFew := ⟨ga_TooFew, gg_TooFew, ex_TooFew, hd_TooFew, ha_TooFew, hn_, ht_, hm_TooFew⟩
  ex_TooFew := ex_TooFew
  ty_TooFew := ty_TooFew
  ox_TooFew := ⟨⟨nm_TooFew, q_TooFew, N_TooFew, bs_TooFew, _, sn_TooFew, sub_TooFew, ab_TooFew, col_TooFew, dd_TooFew, m0_TooFew, m1_TooFew, m2_TooFew, m3_TooFew, m5_TooFew, xL_TooFew, rfl⟩, sa_TooFew, ex_TooFew, ty_TooFew, kc_TooFew⟩
  no_TooFew_lot := no_TooFew_lot
  mkE_TooFew := ⟨⟨⟨nm_TooFew, q_TooFew, N_TooFew, bs_TooFew, _, sn_TooFew, sub_TooFew, ab_TooFew, col_TooFew, dd_TooFew, m0_TooFew, m1_TooFew, m2_TooFew, m3_TooFew, m5_TooFew, xL_TooFew, rfl⟩, sa_TooFew, ex_TooFew, ty_TooFew, kc_TooFew⟩, a_TooFew___init__, t_TooFew, (by intro g h; simp only [List.mem_cons, List.not_mem_nil, or_false] at h; first | (subst h; first | exact no_TooFew_lot) | (rcases h with h | h <;> subst h <;> first | exact no_TooFew_lot))⟩
  mg_NoNumber := PySem.W.mg_of X G aC_NoNumber
  kc_NoNumber := kc_NoNumber
  xf_NoNumber := ⟨ga_NoNumber, gg_NoNumber, ex_NoNumber, hd_NoNumber⟩
  ec_NoNumber := ⟨ga_NoNumber, gg_NoNumber, ex_NoNumber, hd_NoNumber, ha_NoNumber, hn_, ht_, hm_NoNumber⟩
  ex_NoNumber := ex_NoNumber
  ty_NoNumber := ty_NoNumber
  ox_NoNumber := ⟨⟨nm_NoNumber, q_NoNumber, N_NoNumber, bs_NoNumber, _, sn_NoNumber, sub_NoNumber, ab_NoNumber, col_NoNumber, dd_NoNumber, m0_NoNumber, m1_NoNumber, m2_NoNumber, m3_NoNumber, m5_NoNumber, xL_NoNumber, rfl⟩, sa_NoNumber, ex_NoNumber, ty_NoNumber, kc_NoNumber⟩
  no_NoNumber_number := no_NoNumber_number
  mkE_NoNumber := ⟨⟨⟨nm_NoNumber, q_NoNumber, N_NoNumber, bs_NoNumber, _, sn_NoNumber, sub_NoNumber, ab_NoNumber, col_NoNumber, dd_NoNumber, m0_NoNumber, m1_NoNumber, m2_NoNumber, m3_NoNumber, m5_NoNumber, xL_NoNumber, rfl⟩, sa_NoNumber, ex_NoNumber, ty_NoNumber, kc_NoNumber⟩, a_NoNumber___init__, t_NoNumber, (by intro g h; simp only [List.mem_cons, List.not_mem_nil, or_false] at h; first | (subst h; first | exact no_NoNumber_number) | (rcases h with h | h <;> subst h <;> first | exact no_NoNumber_number))⟩
  mg_TooMany := PySem.W.mg_of X G aC_TooMany
  kc_TooMany := kc_TooMany
  xf_TooMany := ⟨ga_TooMany, gg_TooMany, ex_TooMany, hd_TooMany⟩
  ec_TooMany := ⟨ga_TooMany, gg_TooMany, ex_TooMany, hd_TooMany, ha_TooMany, hn_, ht_, hm_TooMany⟩
  ex_TooMany := ex_TooMany
  ty_TooMany := ty_TooMany
  ox_TooMany := ⟨⟨nm_TooMany, q_TooMany, N_TooMany, bs_TooMany, _, sn_TooMany, sub_TooMany, ab_TooMany, col_TooMany, dd_TooMany, m0_TooMany, m1_TooMany, m2_TooMany, m3_TooMany, m5_TooMany, xL_TooMany, rfl⟩, sa_TooMany, ex_TooMany, ty_TooMany, kc_TooMany⟩
  no_TooMany_many := no_TooMany_many
  mkE_TooMany := ⟨⟨⟨nm_TooMany, q_TooMany, N_TooMany, bs_TooMany, _, sn_TooMany, sub_TooMany, ab_TooMany, col_TooMany, dd_TooMany, m0_TooMany, m1_TooMany, m2_TooMany, m3_TooMany, m5_TooMany, xL_TooMany, rfl⟩, sa_TooMany, ex_TooMany, ty_TooMany, kc_TooMany⟩, a_TooMany___init__, t_TooMany, (by intro g h; simp only [List.mem_cons, List.not_mem_nil, or_false] at h; first | (subst h; first | exact no_TooMany_many) | (rcases h with h | h <;> subst h <;> first | exact no_TooMany_many))⟩
  mg_Twice := PySem.W.mg_of X G aC_Twice
  kc_Twice := kc_Twice
  xf_Twice := ⟨ga_Twice, gg_Twice, ex_Twice, hd_Twice⟩
  ec_Twice := ⟨ga_Twice, gg_Twice, ex_Twice, hd_Twice, ha_Twice, hn_, ht_, hm_Twice⟩
  ex_Twice := ex_Twice
  ty_Twice := ty_Twice
  ox_Twice := ⟨⟨nm_Twice, q_Twice, N_Twice, bs_Twice, _, sn_Twice, sub_Twice, ab_Twice, col_Twice, dd_Twice, m0_Twice, m1_Twice, m2_Twice, m3_Twice, m5_Twice, xL_Twice, rfl⟩, sa_Twice, ex_Twice, ty_Twice, kc_Twice⟩
  no_Twice_name := no_Twice_name
  mkE_Twice := ⟨⟨⟨nm_Twice, q_Twice, N_Twice, bs_Twice, _, sn_Twice, sub_Twice, ab_Twice, col_Twice, dd_Twice, m0_Twice, m1_Twice, m2_Twice, m3_Twice, m5_Twice, xL_Twice, rfl⟩, sa_Twice, ex_Twice, ty_Twice, kc_Twice⟩, a_Twice___init__, t_Twice, (by intro g h; simp only [List.mem_cons, List.not_mem_nil, or_false] at h; first | (subst h; first | exact no_Twice_name) | (rcases h with h | h <;> subst h <;> first | exact no_Twice_name))⟩
  mg_NoText := PySem.W.mg_of X G aC_NoText
  kc_NoText := kc_NoText
  xf_NoText := ⟨ga_NoText, gg_NoText, ex_NoText, hd_NoText⟩
  ec_NoText := ⟨ga_NoText, gg_NoText, ex_NoText, hd_NoText, ha_NoText, hn_, ht_, hm_NoText⟩
  ex_NoText := ex_NoText
  ty_NoText := ty_NoText
  ox_NoText := ⟨⟨nm_NoText, q_NoText, N_NoText, bs_NoText, _, sn_NoText, sub_NoText, ab_NoText, col_NoText, dd_NoText, m0_NoText, m1_NoText, m2_NoText, m3_NoText, m5_NoText, xL_NoText, rfl⟩, sa_NoText, ex_NoText, ty_NoText, kc_NoText⟩
  no_NoText_row := no_NoText_row
  mkE_NoText := ⟨⟨⟨nm_NoText, q_NoText, N_NoText, bs_NoText, _, sn_NoText, sub_NoText, ab_NoText, col_NoText, dd_NoText, m0_NoText, m1_NoText, m2_NoText, m3_NoText, m5_NoText, xL_NoText, rfl⟩, sa_NoText, ex_NoText, ty_NoText, kc_NoText⟩, a_NoText___init__, t_NoText, (by intro g h; simp only [List.mem_cons, List.not_mem_nil, or_false] at h; first | (subst h; first | exact no_NoText_row) | (rcases h with h | h <;> subst h <;> first | exact no_NoText_row))⟩
  mg_NoBar := PySem.W.mg_of X G aC_NoBar
  kc_NoBar := kc_NoBar
  xf_NoBar := ⟨ga_NoBar, gg_NoBar, ex_NoBar, hd_NoBar⟩
  ec_NoBar := ⟨ga_NoBar, gg_NoBar, ex_NoBar, hd_NoBar, ha_NoBar, hn_, ht_, hm_NoBar⟩
  ex_NoBar := ex_NoBar
  ty_NoBar := ty_NoBar
  ox_NoBar := ⟨⟨nm_NoBar, q_NoBar, N_NoBar, bs_NoBar, _, sn_NoBar, sub_NoBar, ab_NoBar, col_NoBar, dd_NoBar, m0_NoBar, m1_NoBar, m2_NoBar, m3_NoBar, m5_NoBar, xL_NoBar, rfl⟩, sa_NoBar, ex_NoBar, ty_NoBar, kc_NoBar⟩
  no_NoBar_giver := no_NoBar_giver
  no_NoBar_taker := no_NoBar_taker
  mkE_NoBar := ⟨⟨⟨nm_NoBar, q_NoBar, N_NoBar, bs_NoBar, _, sn_NoBar, sub_NoBar, ab_NoBar, col_NoBar, dd_NoBar, m0_NoBar, m1_NoBar, m2_NoBar, m3_NoBar, m5_NoBar, xL_NoBar, rfl⟩, sa_NoBar, ex_NoBar, ty_NoBar, kc_NoBar⟩, a_NoBar___init__, t_NoBar, (by intro g h; simp only [List.mem_cons, List.not_mem_nil, or_false] at h; first | (subst h; first | exact no_NoBar_giver | exact no_NoBar_taker) | (rcases h with h | h <;> subst h <;> first | exact no_NoBar_giver | exact no_NoBar_taker))⟩
  mg_NoYear := PySem.W.mg_of X G aC_NoYear
  kc_NoYear := kc_NoYear
  xf_NoYear := ⟨ga_NoYear, gg_NoYear, ex_NoYear, hd_NoYear⟩
  ec_NoYear := ⟨ga_NoYear, gg_NoYear, ex_NoYear, hd_NoYear, ha_NoYear, hn_, ht_, hm_NoYear⟩
  ex_NoYear := ex_NoYear
  ty_NoYear := ty_NoYear
  xi_NoYear := xi_NoYear
  mg_NoBack := PySem.W.mg_of X G aC_NoBack
  kc_NoBack := kc_NoBack
  xf_NoBack := ⟨ga_NoBack, gg_NoBack, ex_NoBack, hd_NoBack⟩
  ec_NoBack := ⟨ga_NoBack, gg_NoBack, ex_NoBack, hd_NoBack, ha_NoBack, hn_, ht_, hm_NoBack⟩
  ex_NoBack := ex_NoBack
  ty_NoBack := ty_NoBack
  xi_NoBack := xi_NoBack
  mg_NoRow := PySem.W.mg_of X G aC_NoRow
  kc_NoRow := kc_NoRow
  xf_NoRow := ⟨ga_NoRow, gg_NoRow, ex_NoRow, hd_NoRow⟩
  ec_NoRow := ⟨ga_NoRow, gg_NoRow, ex_NoRow, hd_NoRow, ha_NoRow, hn_, ht_, hm_NoRow⟩
  ex_NoRow := ex_NoRow
  ty_NoRow := ty_NoRow
  xi_NoRow := xi_NoRow
  mg_LotError := PySem.W.mg_of X G aC_LotError
  kc_LotError := kc_LotError
  xf_LotError := ⟨ga_LotError, gg_LotError, ex_LotError, hd_LotError⟩
  ec_LotError := ⟨ga_LotError, gg_LotError, ex_LotError, hd_LotError, ha_LotError, hn_, ht_, hm_LotError⟩
  ex_LotError := ex_LotError
  ty_LotError := ty_LotError
  li := ⟨li1, li2, li3⟩
  kw_NoMember_name := kwb (fun_mk (st := s_NoMember___init__) l_NoMember___init__ c_NoMember___init__ k_NoMember___init__) rfl (by decide) fun _ _ _ _ _ _ us ws h1 h2 => match us, h1, ws, h2 with | [_], _, [_], _ => rfl
  kw_NoDrawing_thing := kwb (fun_mk (st := s_NoDrawing___init__) l_NoDrawing___init__ c_NoDrawing___init__ k_NoDrawing___init__) rfl (by decide) fun _ _ _ _ _ _ us ws h1 h2 => match us, h1, ws, h2 with | [_], _, [_], _ => rfl
  kw_TooFew_lot := kwb (fun_mk (st := s_TooFew___init__) l_TooFew___init__ c_TooFew___init__ k_TooFew___init__) rfl (by decide) fun _ _ _ _ _ _ us ws h1 h2 => match us, h1, ws, h2 with | [_], _, [_], _ => rfl
  kw_NoNumber_number := kwb (fun_mk (st := s_NoNumber___init__) l_NoNumber___init__ c_NoNumber___init__ k_NoNumber___init__) rfl (by decide) fun _ _ _ _ _ _ us ws h1 h2 => match us, h1, ws, h2 with | [_], _, [_], _ => rfl
  kw_TooMany_many := kwb (fun_mk (st := s_TooMany___init__) l_TooMany___init__ c_TooMany___init__ k_TooMany___init__) rfl (by decide) fun _ _ _ _ _ _ us ws h1 h2 => match us, h1, ws, h2 with | [_], _, [_], _ => rfl
  kw_Twice_name := kwb (fun_mk (st := s_Twice___init__) l_Twice___init__ c_Twice___init__ k_Twice___init__) rfl (by decide) fun _ _ _ _ _ _ us ws h1 h2 => match us, h1, ws, h2 with | [_], _, [_], _ => rfl
  kw_NoText_row := kwb (fun_mk (st := s_NoText___init__) l_NoText___init__ c_NoText___init__ k_NoText___init__) rfl (by decide) fun _ _ _ _ _ _ us ws h1 h2 => match us, h1, ws, h2 with | [_], _, [_], _ => rfl
  kw_NoBar_taker_giver := kwb (fun_mk (st := s_NoBar___init__) l_NoBar___init__ c_NoBar___init__ k_NoBar___init__) rfl (by decide) fun _ _ _ _ _ _ us ws h1 h2 => match us, h1, ws, h2 with | [_], _, [_, _], _ => rfl
  ko_NoMember_NoMember := ko_NoMember_NoMember
  ko_NoMember_NoDrawing := ko_NoMember_NoDrawing
  ko_NoMember_TooFew := ko_NoMember_TooFew
  ko_NoMember_NoNumber := ko_NoMember_NoNumber
  ko_NoMember_TooMany := ko_NoMember_TooMany
  ko_NoMember_Twice := ko_NoMember_Twice
  ko_NoMember_NoText := ko_NoMember_NoText
  ko_NoMember_NoBar := ko_NoMember_NoBar
  ko_NoMember_NoYear := ko_NoMember_NoYear
  ko_NoMember_NoBack := ko_NoMember_NoBack
  ko_NoMember_NoRow := ko_NoMember_NoRow
  ko_NoMember_LotError := ko_NoMember_LotError
  ko_NoMember_ValueError := ko_NoMember_ValueError
  ko_NoDrawing_NoMember := ko_NoDrawing_NoMember
  ko_NoDrawing_NoDrawing := ko_NoDrawing_NoDrawing
  ko_NoDrawing_TooFew := ko_NoDrawing_TooFew
  ko_NoDrawing_NoNumber := ko_NoDrawing_NoNumber
  ko_NoDrawing_TooMany := ko_NoDrawing_TooMany
  ko_NoDrawing_Twice := ko_NoDrawing_Twice
  ko_NoDrawing_NoText := ko_NoDrawing_NoText
  ko_NoDrawing_NoBar := ko_NoDrawing_NoBar
  ko_NoDrawing_NoYear := ko_NoDrawing_NoYear
  ko_NoDrawing_NoBack := ko_NoDrawing_NoBack
  ko_NoDrawing_NoRow := ko_NoDrawing_NoRow
  ko_NoDrawing_LotError := ko_NoDrawing_LotError
  ko_NoDrawing_ValueError := ko_NoDrawing_ValueError
  ko_TooFew_NoMember := ko_TooFew_NoMember
  ko_TooFew_NoDrawing := ko_TooFew_NoDrawing
  ko_TooFew_TooFew := ko_TooFew_TooFew
  ko_TooFew_NoNumber := ko_TooFew_NoNumber
  ko_TooFew_TooMany := ko_TooFew_TooMany
  ko_TooFew_Twice := ko_TooFew_Twice
  ko_TooFew_NoText := ko_TooFew_NoText
  ko_TooFew_NoBar := ko_TooFew_NoBar
  ko_TooFew_NoYear := ko_TooFew_NoYear
  ko_TooFew_NoBack := ko_TooFew_NoBack
  ko_TooFew_NoRow := ko_TooFew_NoRow
  ko_TooFew_LotError := ko_TooFew_LotError
  ko_TooFew_ValueError := ko_TooFew_ValueError
  ko_NoNumber_NoMember := ko_NoNumber_NoMember
  ko_NoNumber_NoDrawing := ko_NoNumber_NoDrawing
  ko_NoNumber_TooFew := ko_NoNumber_TooFew
  ko_NoNumber_NoNumber := ko_NoNumber_NoNumber
  ko_NoNumber_TooMany := ko_NoNumber_TooMany
  ko_NoNumber_Twice := ko_NoNumber_Twice
  ko_NoNumber_NoText := ko_NoNumber_NoText
  ko_NoNumber_NoBar := ko_NoNumber_NoBar
  ko_NoNumber_NoYear := ko_NoNumber_NoYear
  ko_NoNumber_NoBack := ko_NoNumber_NoBack
  ko_NoNumber_NoRow := ko_NoNumber_NoRow
  ko_NoNumber_LotError := ko_NoNumber_LotError
  ko_NoNumber_ValueError := ko_NoNumber_ValueError
  ko_TooMany_NoMember := ko_TooMany_NoMember
  ko_TooMany_NoDrawing := ko_TooMany_NoDrawing
  ko_TooMany_TooFew := ko_TooMany_TooFew
  ko_TooMany_NoNumber := ko_TooMany_NoNumber
  ko_TooMany_TooMany := ko_TooMany_TooMany
  ko_TooMany_Twice := ko_TooMany_Twice
  ko_TooMany_NoText := ko_TooMany_NoText
  ko_TooMany_NoBar := ko_TooMany_NoBar
  ko_TooMany_NoYear := ko_TooMany_NoYear
  ko_TooMany_NoBack := ko_TooMany_NoBack
  ko_TooMany_NoRow := ko_TooMany_NoRow
  ko_TooMany_LotError := ko_TooMany_LotError
  ko_TooMany_ValueError := ko_TooMany_ValueError
  ko_Twice_NoMember := ko_Twice_NoMember
  ko_Twice_NoDrawing := ko_Twice_NoDrawing
  ko_Twice_TooFew := ko_Twice_TooFew
  ko_Twice_NoNumber := ko_Twice_NoNumber
  ko_Twice_TooMany := ko_Twice_TooMany
  ko_Twice_Twice := ko_Twice_Twice
  ko_Twice_NoText := ko_Twice_NoText
  ko_Twice_NoBar := ko_Twice_NoBar
  ko_Twice_NoYear := ko_Twice_NoYear
  ko_Twice_NoBack := ko_Twice_NoBack
  ko_Twice_NoRow := ko_Twice_NoRow
  ko_Twice_LotError := ko_Twice_LotError
  ko_Twice_ValueError := ko_Twice_ValueError
  ko_NoText_NoMember := ko_NoText_NoMember
  ko_NoText_NoDrawing := ko_NoText_NoDrawing
  ko_NoText_TooFew := ko_NoText_TooFew
  ko_NoText_NoNumber := ko_NoText_NoNumber
  ko_NoText_TooMany := ko_NoText_TooMany
  ko_NoText_Twice := ko_NoText_Twice
  ko_NoText_NoText := ko_NoText_NoText
  ko_NoText_NoBar := ko_NoText_NoBar
  ko_NoText_NoYear := ko_NoText_NoYear
  ko_NoText_NoBack := ko_NoText_NoBack
  ko_NoText_NoRow := ko_NoText_NoRow
  ko_NoText_LotError := ko_NoText_LotError
  ko_NoText_ValueError := ko_NoText_ValueError
  ko_NoBar_NoMember := ko_NoBar_NoMember
  ko_NoBar_NoDrawing := ko_NoBar_NoDrawing
  ko_NoBar_TooFew := ko_NoBar_TooFew
  ko_NoBar_NoNumber := ko_NoBar_NoNumber
  ko_NoBar_TooMany := ko_NoBar_TooMany
  ko_NoBar_Twice := ko_NoBar_Twice
  ko_NoBar_NoText := ko_NoBar_NoText
  ko_NoBar_NoBar := ko_NoBar_NoBar
  ko_NoBar_NoYear := ko_NoBar_NoYear
  ko_NoBar_NoBack := ko_NoBar_NoBack
  ko_NoBar_NoRow := ko_NoBar_NoRow
  ko_NoBar_LotError := ko_NoBar_LotError
  ko_NoBar_ValueError := ko_NoBar_ValueError
  ko_NoYear_NoMember := ko_NoYear_NoMember
  ko_NoYear_NoDrawing := ko_NoYear_NoDrawing
  ko_NoYear_TooFew := ko_NoYear_TooFew
  ko_NoYear_NoNumber := ko_NoYear_NoNumber
  ko_NoYear_TooMany := ko_NoYear_TooMany
  ko_NoYear_Twice := ko_NoYear_Twice
  ko_NoYear_NoText := ko_NoYear_NoText
  ko_NoYear_NoBar := ko_NoYear_NoBar
  ko_NoYear_NoYear := ko_NoYear_NoYear
  ko_NoYear_NoBack := ko_NoYear_NoBack
  ko_NoYear_NoRow := ko_NoYear_NoRow
  ko_NoYear_LotError := ko_NoYear_LotError
  ko_NoYear_ValueError := ko_NoYear_ValueError
  ko_NoBack_NoMember := ko_NoBack_NoMember
  ko_NoBack_NoDrawing := ko_NoBack_NoDrawing
  ko_NoBack_TooFew := ko_NoBack_TooFew
  ko_NoBack_NoNumber := ko_NoBack_NoNumber
  ko_NoBack_TooMany := ko_NoBack_TooMany
  ko_NoBack_Twice := ko_NoBack_Twice
  ko_NoBack_NoText := ko_NoBack_NoText
  ko_NoBack_NoBar := ko_NoBack_NoBar
  ko_NoBack_NoYear := ko_NoBack_NoYear
  ko_NoBack_NoBack := ko_NoBack_NoBack
  ko_NoBack_NoRow := ko_NoBack_NoRow
  ko_NoBack_LotError := ko_NoBack_LotError
  ko_NoBack_ValueError := ko_NoBack_ValueError
  ko_NoRow_NoMember := ko_NoRow_NoMember
  ko_NoRow_NoDrawing := ko_NoRow_NoDrawing
  ko_NoRow_TooFew := ko_NoRow_TooFew
  ko_NoRow_NoNumber := ko_NoRow_NoNumber
  ko_NoRow_TooMany := ko_NoRow_TooMany
  ko_NoRow_Twice := ko_NoRow_Twice
  ko_NoRow_NoText := ko_NoRow_NoText
  ko_NoRow_NoBar := ko_NoRow_NoBar
  ko_NoRow_NoYear := ko_NoRow_NoYear
  ko_NoRow_NoBack := ko_NoRow_NoBack
  ko_NoRow_NoRow := ko_NoRow_NoRow
  ko_NoRow_LotError := ko_NoRow_LotError
  ko_NoRow_ValueError := ko_NoRow_ValueError
  xm_NoMember := exm_of ex_LotError hd_LotError ty_LotError su_NoMember
  xm_NoDrawing := exm_of ex_LotError hd_LotError ty_LotError su_NoDrawing
  xm_TooFew := exm_of ex_LotError hd_LotError ty_LotError su_TooFew
  xm_NoNumber := exm_of ex_LotError hd_LotError ty_LotError su_NoNumber
  xm_TooMany := exm_of ex_LotError hd_LotError ty_LotError su_TooMany
  xm_Twice := exm_of ex_LotError hd_LotError ty_LotError su_Twice
  xm_NoText := exm_of ex_LotError hd_LotError ty_LotError su_NoText
  xm_NoBar := exm_of ex_LotError hd_LotError ty_LotError su_NoBar
  n_len := PySem.W.mg_none_of X G n_len
  n_abs := PySem.W.mg_none_of X G n_abs
  n_all := PySem.W.mg_none_of X G n_all
  n_repr := PySem.W.mg_none_of X G n_repr
  n_range := PySem.W.mg_none_of X G n_range
  n_isinstance := PySem.W.mg_none_of X G n_isinstance
  n_list := PySem.W.mg_none_of X G n_list
  n_ValueError := PySem.W.mg_none_of X G n_ValueError }
end K08

namespace K08
open PySem PySem.Spec PyProof.Rows L2 MP
/-! ### the draws -/
theorem add2_ii {S : Sto} {i j : Int} : gAdd2 S (.int i) (.int j) = some (.int (i + j)) := rfl
def P1 : Int := 2305843009213693951
def P2 : Int := 2305843009213693921
def P3 : Int := 2305843009213693907
def SBlend (g : F) : Prop := ∀ (S : Sto) (a t : Int), 0 ≤ t → t < 10 ^ 30 → ∃ v, g [.int a, .int t] S = .ok (.int v) S ∧ 0 ≤ v ∧ v < 10 ^ 30
/-- the pot -/
def Pot (n : Int) (S : Sto) (d : D) : Prop := ∃ (j i : Nat) (own : List Int) (dig mix cnt : Int), d = .ref j ∧ i ≠ j ∧ S[j]? = some (.lst [.ref i, .int dig, .int mix, .int cnt]) ∧ S[i]? = some (.lst (own.map D.int)) ∧ own.length ≤ 63 ∧ 0 ≤ dig ∧ 0 ≤ cnt ∧ cnt ≤ n
def SPot (g : F) : Prop := ∀ (S : Sto) (ns : List Int), ns.length ≤ 63 → ∃ d S', g [.lst (ns.map D.int)] S = .ok d S' ∧ Pot 0 S' d
def SDraw (g : F) : Prop := ∀ (n : Int) (S : Sto) (d : D) (wd : Int), Pot n S d → n < 10 ^ 29 → 0 < wd → wd < 10 ^ 200 → ∃ v S', g [d, .int wd] S = .ok (.int v) S' ∧ 0 ≤ v ∧ v < wd ∧ Pot (n + 1) S' d
def SPick (g : F) : Prop := ∀ (n : Int) (S : Sto) (d : D) (xs : List D), Pot n S d → n < 10 ^ 29 → xs ≠ [] → xs.length ≤ 1000 → ∃ y S', y ∈ xs ∧ g [d, .lst xs] S = .ok y S' ∧ Pot (n + 1) S' d
theorem sml {c : Int} (a : 0 ≤ c) (b : c < 10 ^ 100) : Sm c := Sm.of a b (by decide +kernel)
theorem lx {j : Nat} {xs : List D} {S : Sto} {k : Int} {d : D} {ρ : Ev} (h : S[j]? = some (.lst xs)) (hd : atI xs k = some d) (hv : lVar 0 ρ S = .ok (.ref j) S) : lBin gIx (lVar 0) (lC (.int k)) ρ S = .ok d S := bin_ok hv rfl (ix_ref h hd)
theorem set_self {S : Sto} {j : Nat} {o o' : O} (h : S[j]? = some o) : (S.set j o')[j]? = some o' := List.getElem?_set_self (List.getElem?_eq_some_iff.mp h).1
section
variable {P : Program} {w : World} {K : PySem.W.Frag} {mg : Str → Option Value} {base : Heap}
theorem ok_blend (T : T08 K mg) : ∃ g, FnL P w K mg base 1 T.f__law_blend T.fd__law_blend ["_law_sown", "_law_turn"] g ∧ SBlend g := by
  refine ⟨_, Fun.okL T.F__law_blend sc__law_blend fun cdv A outer s H E hr =>
(pssl_cons (psl_set (i := 2) sc__law_blend.nd (pel_op opl_add2 (pel_op opl_add2 (pel_op opl_add2 (pel_op opl_mod (pel_var (i := 0)) pel_int) (pel_op opl_mul (pel_op opl_mul pel_int (pel_var (i := 1))) (pel_var (i := 1)))) (pel_op opl_mul pel_int (pel_var (i := 1)))) pel_int))
  (pssl_cons (psl_set (i := 3) sc__law_blend.nd (pel_op opl_mod (pel_op opl_mul (pel_var (i := 2)) pel_int) pel_int))
  (pssl_one (psl_ret (pel_op opl_mod (pel_op opl_add2 (pel_op opl_mul (pel_var (i := 3)) (pel_op opl_add2 (pel_op opl_mod (pel_var (i := 3)) pel_int) (pel_op opl_mul pel_int (pel_var (i := 1))))) (pel_op opl_div (pel_var (i := 3)) pel_int)) pel_int))))), ?_⟩
  intro S a t t0 t1
  have bb : (0 : Int) < 10 ^ 30 ∧ (10 : Int) ^ 30 < 10 ^ 100 ∧ (104729 : Int) * 10 ^ 30 < 10 ^ 100 ∧ (17 : Int) * 10 ^ 30 < 10 ^ 90 ∧ (99991 : Int) * 10 ^ 30 + 1000003 < 10 ^ 100 ∧ (104729 : Int) * 10 ^ 30 * 10 ^ 30 + 10 ^ 30 + 10 ^ 90 + 10 ^ 90 + 5 < 10 ^ 100 ∧ (2305843009213693951 : Int) < 10 ^ 30 ∧ (2305843009213693921 : Int) < 10 ^ 30 ∧ (2305843009213693907 : Int) < 10 ^ 30 := by decide +kernel
  obtain ⟨bb0, bb1, bb2, bb3, bb4, bb5, bb6, bb7, bb8⟩ := bb
  have st : Sm t := sml t0 (by omega)
  have k1 : (104729 : Int) * t ≤ 104729 * 10 ^ 30 := by omega
  have k2 : (104729 : Int) * t * t ≤ 104729 * 10 ^ 30 * 10 ^ 30 := Int.le_trans (Int.mul_le_mul_of_nonneg_right k1 t0) (Int.mul_le_mul_of_nonneg_left (by omega) (by decide +kernel))
  have k3 : (0 : Int) ≤ 104729 * t * t := Int.mul_nonneg (by omega) t0
  have r0 := Int.emod_nonneg a (b := 2305843009213693951) (by decide)
  have r1 := Int.emod_lt_of_pos a (b := 2305843009213693951) (by decide)
  have g1 := set_ok (i := 2) (S := S) (ρ := [some (.int a), some (.int t), none, none]) (bin_ok (bin_ok (bin_ok (bin_ok (la := lVar 0) (lb := lC (.int 2305843009213693951)) rfl rfl (mod_ii (by decide))) (bin_ok (bin_ok (la := lC (.int 104729)) (lb := lVar 1) rfl rfl (mul_ii (sml (by decide) (by decide +kernel)) st)) (lb := lVar 1) rfl (mul_ii (sml (by omega) (by omega)) st)) add2_ii) (bin_ok (la := lC (.int 17)) (lb := lVar 1) rfl rfl (mul_ii (sml (by decide) (by decide +kernel)) st)) add2_ii) (lb := lC (.int 5)) rfl add2_ii)
  have hs0 : 0 ≤ a % 2305843009213693951 + 104729 * t * t + 17 * t + 5 := by omega
  have hs1 : a % 2305843009213693951 + 104729 * t * t + 17 * t + 5 < 10 ^ 100 := by omega
  generalize a % 2305843009213693951 + 104729 * t * t + 17 * t + 5 = sd at g1 hs0 hs1
  have g2 := set_ok (i := 3) (S := S) (ρ := [some (.int a), some (.int t), some (.int sd), none]) (bin_ok (bin_ok (la := lVar 2) (lb := lC (.int 48271)) rfl rfl (mul_ii (sml hs0 hs1) (sml (by decide) (by decide +kernel)))) (lb := lC (.int 2305843009213693921)) rfl (mod_ii (by decide)))
  have m0 := Int.emod_nonneg (sd * 48271) (b := 2305843009213693921) (by decide)
  have m1 := Int.emod_lt_of_pos (sd * 48271) (b := 2305843009213693921) (by decide)
  generalize sd * 48271 % 2305843009213693921 = mx at g2 m0 m1
  have q0 := Int.emod_nonneg mx (b := 1000003) (by decide)
  have q1 := Int.emod_lt_of_pos mx (b := 1000003) (by decide)
  have g3 := ret_ok (S := S) (ρ := [some (.int a), some (.int t), some (.int sd), some (.int mx)]) (bin_ok (bin_ok (bin_ok (la := lVar 3) rfl (bin_ok (bin_ok (la := lVar 3) (lb := lC (.int 1000003)) rfl rfl (mod_ii (by decide))) (bin_ok (la := lC (.int 99991)) (lb := lVar 1) rfl rfl (mul_ii (sml (by decide) (by decide +kernel)) st)) add2_ii) (mul_ii (sml m0 (by omega)) (sml (by omega) (by omega)))) (bin_ok (la := lVar 3) (lb := lC (.int 11)) rfl rfl (div_ii (by decide) (sml (by decide) (by decide +kernel)))) add2_ii) (lb := lC (.int 2305843009213693907)) rfl (mod_ii (by decide)))
  have v0 := Int.emod_nonneg (mx * (mx % 1000003 + 99991 * t) + mx / 11) (b := 2305843009213693907) (by decide)
  have v1 := Int.emod_lt_of_pos (mx * (mx % 1000003 + 99991 * t) + mx / 11) (b := 2305843009213693907) (by decide)
  exact ⟨_, body_rt (seq_nx g1 (seq_nx g2 g3)), v0, by omega⟩
theorem ok_pot (T : T08 K mg) : ∃ g, FnL P w K mg base 1 T.f__law_pot T.fd__law_pot ["_law_script"] g ∧ SPot g := by
  refine ⟨_, Fun.okL T.F__law_pot sc__law_pot fun cdv A outer s H E hr =>
(pssl_one (psl_ret (pel_lstN (pal_cons (pel_listN rfl T.n_list (by decide +kernel) (pal_cons (pel_var (i := 0)) pal_nil)) (pal_cons pel_int (pal_cons pel_int (pal_cons pel_int pal_nil))))))), ?_⟩
  intro S ns hn
  refine ⟨_, _, body_rt (ret_ok (lstN_ok (acons_ok (d := .ref S.length) (S1 := S ++ [.lst (ns.map D.int)]) rfl (acons_ok rfl (acons_ok rfl (acons_ok rfl rfl)))) (by simp))), ?_⟩
  refine ⟨_, S.length, ns, 0, 3, 0, rfl, by simp, last_at, ?_, hn, by omega, by omega, by omega⟩
  rw [List.getElem?_append_left (by simp)]
  exact last_at
theorem ok_draw (T : T08 K mg) : ∃ g, FnL P w K mg base 2 T.f__law_draw T.fd__law_draw ["_law_pot_here", "_law_size"] g ∧ SDraw g := by
  obtain ⟨gb, Fn__law_blend, Sb⟩ := ok_blend (P := P) (w := w) (base := base) T
  refine ⟨_, Fun.okL T.F__law_draw sc__law_draw fun cdv A outer s H E hr =>
(pssl_cons (psl_sub psetl_seq (pel_var (i := 0)) pel_int (pel_op opl_add2 (pel_ix ixl_seq (pel_var (i := 0)) pel_int) pel_int))
  (pssl_cons (psl_if (PWL.pt (pwl_and (ptl_cmp (opl_eq hr.units) (pel_ix ixl_seq (pel_var (i := 0)) pel_int) pel_int) (pwl_and1 (ptl_cmp (opl_ne hr.units) (pel_ix ixl_seq (pel_var (i := 0)) pel_int) (pel_lst pal_nil))))) (pssl_cons (psl_set (i := 2) sc__law_draw.nd (pel_popAt (pel_ix ixl_seq (pel_var (i := 0)) pel_int) pel_int))
  (pssl_cons (psl_sub psetl_seq (pel_var (i := 0)) pel_int (pel_call Fn__law_blend (hr.mono (by decide)) rfl T.mg__law_blend T.F__law_blend.kp T.b__law_blend dfl_nil (pal_cons (pel_op opl_add2 (pel_ix ixl_seq (pel_var (i := 0)) pel_int) (pel_var (i := 2))) (pal_cons (pel_callB (cl_len) rfl T.n_len (by decide +kernel) (pal_cons (pel_ix ixl_seq (pel_var (i := 0)) pel_int) pal_nil)) pal_nil))))
  (pssl_one (psl_if (ptl_cmp opl_geI (pel_callB (cl_abs) rfl T.n_abs (by decide +kernel) (pal_cons (pel_var (i := 2)) pal_nil)) (pel_op opl_pow pel_int pel_int)) (pssl_one (psl_sub psetl_seq (pel_var (i := 0)) pel_int (pel_callB (cl_abs) rfl T.n_abs (by decide +kernel) (pal_cons (pel_var (i := 2)) pal_nil)))) pssl_nil)))) pssl_nil)
  (pssl_cons (psl_if (ptl_cmp opl_gtI (pel_ix ixl_seq (pel_var (i := 0)) pel_int) pel_int) (pssl_cons (psl_set (i := 3) sc__law_draw.nd (pel_op opl_mod (pel_ix ixl_seq (pel_var (i := 0)) pel_int) (pel_var (i := 1))))
  (pssl_cons (psl_sub psetl_seq (pel_var (i := 0)) pel_int (pel_op opl_div (pel_ix ixl_seq (pel_var (i := 0)) pel_int) (pel_var (i := 1))))
  (pssl_one (psl_ret (pel_var (i := 3)))))) pssl_nil)
  (pssl_one (psl_ret (pel_op opl_mod (pel_op opl_div (pel_call Fn__law_blend (hr.mono (by decide)) rfl T.mg__law_blend T.F__law_blend.kp T.b__law_blend dfl_nil (pal_cons (pel_ix ixl_seq (pel_var (i := 0)) pel_int) (pal_cons (pel_ix ixl_seq (pel_var (i := 0)) pel_int) pal_nil))) pel_int) (pel_var (i := 1)))))))), ?_⟩
  intro n S d wd hp hn w0 w1
  obtain ⟨j, i, own, dig, mix, cnt, rfl, hij, hj, hi, hl, d0, c0, c1⟩ := hp
  have smw : Sm wd := Sm.of (by omega) w1 (by decide +kernel)
  have b29 : (10 : Int) ^ 29 < 10 ^ 30 := by decide +kernel
  have b1000 : (1000 : Int) < 10 ^ 30 := by decide +kernel
  -- one more draw
  have g1 : ∀ x y, lStS stSeq (lVar 0) (lC (.int 3)) (lBin gAdd2 (lBin gIx (lVar 0) (lC (.int 3))) (lC (.int 1))) [some (.ref j), some (.int wd), x, y] S = .ok (.nx [some (.ref j), some (.int wd), x, y]) (S.set j (.lst [.ref i, .int dig, .int mix, .int (cnt + 1)])) := fun x y => stS_ok (bin_ok (lx hj rfl rfl) rfl add2_ii) rfl rfl (sub_ok (n := 3) hj rfl)
  have hj1 := set_self (o' := .lst [.ref i, .int dig, .int mix, .int (cnt + 1)]) hj
  have hi1 : (S.set j (.lst [.ref i, .int dig, .int mix, .int (cnt + 1)]))[i]? = some (.lst (own.map D.int)) := by rw [List.getElem?_set_ne (Ne.symm hij)]; exact hi
  generalize S.set j (.lst [.ref i, .int dig, .int mix, .int (cnt + 1)]) = S1 at g1 hj1 hi1
  -- a cell taken
  have key : ∃ (own' : List Int) (dig' mix' : Int) (x : Option D) (S2 : Sto), own'.length ≤ 63 ∧ 0 ≤ dig' ∧ S2[j]? = some (.lst [.ref i, .int dig', .int mix', .int (cnt + 1)]) ∧ S2[i]? = some (.lst (own'.map D.int)) ∧
      (lIfS (MP.tAnd (tTru (lBin gEq (lBin gIx (lVar 0) (lC (.int 1))) (lC (.int 0)))) (tTru (lBin gNe (lBin gIx (lVar 0) (lC (.int 0))) (lLst aNil)))) (lSeq (lSet 2 (lBM "list" stPopAt (lBin gIx (lVar 0) (lC (.int 0))) (aCons (lC (.int 0)) aNil)))
        (lSeq (lStS stSeq (lVar 0) (lC (.int 2)) (lCall 2 gb [] (aCons (lBin gAdd2 (lBin gIx (lVar 0) (lC (.int 2))) (lVar 2)) (aCons (lCallB gLen (aCons (lBin gIx (lVar 0) (lC (.int 0))) aNil)) aNil))))
          (lIfS (tTru (lBin gGeI (lCallB gAbs (aCons (lVar 2) aNil)) (lBin gPow (lC (.int 10)) (lC (.int 18))))) (lStS stSeq (lVar 0) (lC (.int 1)) (lCallB gAbs (aCons (lVar 2) aNil))) lNext))) lNext [some (.ref j), some (.int wd), none, none] S1 = .ok (.nx [some (.ref j), some (.int wd), x, none]) S2) := by
    by_cases hd : dig = 0
    · have t1 : ∀ x, tTru (lBin gEq (lBin gIx (lVar 0) (lC (.int 1))) (lC (.int 0))) [some (.ref j), some (.int wd), x, none] S1 = .ok true S1 := fun x => tru_b (bin_ok (lx hj1 rfl rfl) rfl eq_ii) (decide_eq_true hd)
      have t2 : tTru (lBin gNe (lBin gIx (lVar 0) (lC (.int 0))) (lLst aNil)) [some (.ref j), some (.int wd), none, none] S1 = .ok (!own.isEmpty) S1 := tru_b (bin_ok (lx hj1 rfl rfl) (lst_ok rfl (by simp)) (ne_nil hi1)) rfl
      cases own with
      | nil => exact ⟨[], dig, mix, none, S1, by simp, d0, hj1, hi1, if_ff (and_tt (t1 _) t2) rfl⟩
      | cons z own =>
        have hil : i < S1.length := (List.getElem?_eq_some_iff.mp hi1).1
        simp only [List.length_cons] at hl
        -- the cell
        have p1 : lSet 2 (lBM "list" stPopAt (lBin gIx (lVar 0) (lC (.int 0))) (aCons (lC (.int 0)) aNil)) [some (.ref j), some (.int wd), none, none] S1 = .ok (.nx [some (.ref j), some (.int wd), some (.int z), none]) (S1.set i (.lst (own.map D.int))) :=
          set_ok (bm_ok (lx hj1 rfl rfl) (ty_lst hi1) (acons_ok rfl rfl) (pop0_ok hi1))
        have hj2 : (S1.set i (.lst (own.map D.int)))[j]? = some (.lst [.ref i, .int dig, .int mix, .int (cnt + 1)]) := by rw [List.getElem?_set_ne hij]; exact hj1
        have hi2 := set_self (o' := .lst (own.map D.int)) hi1
        generalize S1.set i (.lst (own.map D.int)) = S2 at p1 hj2 hi2
        obtain ⟨v, eb, v0, v1⟩ := Sb S2 (mix + z) (own.length : Int) (by omega) (by omega)
        have hlen : gLen S2 [.ref i] = some (.int (own.length : Int)) := by
          have e : vw S2 (.ref i) = .lst (own.map D.int) := by unfold vw; dsimp only; rw [hi2]
          unfold gLen; dsimp only; rw [e]; simp
        have p2 : lStS stSeq (lVar 0) (lC (.int 2)) (lCall 2 gb [] (aCons (lBin gAdd2 (lBin gIx (lVar 0) (lC (.int 2))) (lVar 2)) (aCons (lCallB gLen (aCons (lBin gIx (lVar 0) (lC (.int 0))) aNil)) aNil))) [some (.ref j), some (.int wd), some (.int z), none] S2 = .ok (.nx [some (.ref j), some (.int wd), some (.int z), none]) (S2.set j (.lst [.ref i, .int dig, .int v, .int (cnt + 1)])) :=
          stS_ok (call_ok (acons_ok (bin_ok (lx hj2 rfl rfl) rfl add2_ii) (acons_ok (callb_ok (acons_ok (lx hj2 rfl rfl) rfl) hlen) rfl)) rfl eb) rfl rfl (sub_ok (n := 2) hj2 rfl)
        have hj3 := set_self (o' := .lst [.ref i, .int dig, .int v, .int (cnt + 1)]) hj2
        have hi3 : (S2.set j (.lst [.ref i, .int dig, .int v, .int (cnt + 1)]))[i]? = some (.lst (own.map D.int)) := by rw [List.getElem?_set_ne (Ne.symm hij)]; exact hi2
        generalize S2.set j (.lst [.ref i, .int dig, .int v, .int (cnt + 1)]) = S3 at p2 hj3 hi3
        have habs : lCallB gAbs (aCons (lVar 2) aNil) [some (.ref j), some (.int wd), some (.int z), none] S3 = .ok (.int (if z < 0 then -z else z)) S3 := callb_ok (acons_ok rfl rfl) rfl
        by_cases hz : (10 : Int) ^ (18 : Int).toNat ≤ (if z < 0 then -z else z)
        · have p3 := stS_ok (lo := lVar 0) (li := lC (.int 1)) habs rfl rfl (sub_ok (n := 1) (d := .int (if z < 0 then -z else z)) hj3 rfl)
          have hj4 := set_self (o' := .lst [.ref i, .int (if z < 0 then -z else z), .int v, .int (cnt + 1)]) hj3
          have hi4 : (S3.set j (.lst [.ref i, .int (if z < 0 then -z else z), .int v, .int (cnt + 1)]))[i]? = some (.lst (own.map D.int)) := by rw [List.getElem?_set_ne (Ne.symm hij)]; exact hi3
          refine ⟨own, (if z < 0 then -z else z), v, some (.int z), _, by omega, by split <;> omega, hj4, hi4, if_tt (and_tt (t1 _) t2) (seq_nx p1 (seq_nx p2 (if_tt (tru_b (bin_ok habs (bin_ok rfl rfl (pow_ii ⟨by decide, by decide, by decide⟩)) rfl) (decide_eq_true hz)) p3)))⟩
        · exact ⟨own, dig, v, some (.int z), _, by omega, d0, hj3, hi3, if_tt (and_tt (t1 _) t2) (seq_nx p1 (seq_nx p2 (if_ff (tru_b (bin_ok habs (bin_ok rfl rfl (pow_ii ⟨by decide, by decide, by decide⟩)) rfl) (decide_eq_false hz)) rfl)))⟩
    · exact ⟨own, dig, mix, none, S1, hl, d0, hj1, hi1, if_ff (and_ff (tru_b (bin_ok (lx hj1 rfl rfl) rfl eq_ii) (decide_eq_false hd))) rfl⟩
  obtain ⟨own', dig', mix', x, S2, hl', d0', hj2, hi2, g2⟩ := key
  by_cases hd : 0 < dig'
  · have g3 := set_ok (i := 3) (ρ := [some (.ref j), some (.int wd), x, none]) (bin_ok (lx (k := 1) hj2 rfl rfl) (lb := lVar 1) rfl (mod_ii (i := dig') w0))
    have g4 := stS_ok (ρ := [some (.ref j), some (.int wd), x, some (.int (dig' % wd))]) (lo := lVar 0) (li := lC (.int 1)) (bin_ok (lx (k := 1) hj2 rfl rfl) (lb := lVar 1) rfl (div_ii (i := dig') w0 smw)) rfl rfl (sub_ok (n := 1) (d := .int (dig' / wd)) hj2 rfl)
    refine ⟨dig' % wd, _, body_rt (seq_nx (g1 none none) (seq_nx g2 (seq_rt (if_tt (tru_b (bin_ok (lx hj2 rfl rfl) rfl rfl) (decide_eq_true hd)) (seq_nx g3 (seq_nx g4 (ret_ok rfl))))))), Int.emod_nonneg _ (Int.ne_of_gt w0), Int.emod_lt_of_pos _ w0, ?_⟩
    exact ⟨j, i, own', dig' / wd, mix', cnt + 1, rfl, hij, set_self hj2, by rw [List.getElem?_set_ne (Ne.symm hij)]; exact hi2, hl', Int.ediv_nonneg (by omega) (by omega), by omega, by omega⟩
  · obtain ⟨v, eb, v0, v1⟩ := Sb S2 mix' (cnt + 1) (by omega) (by omega)
    refine ⟨v / 7 % wd, S2, body_rt (seq_nx (g1 none none) (seq_nx g2 (seq_nx (if_ff (tru_b (bin_ok (lx hj2 rfl rfl) rfl rfl) (decide_eq_false hd)) rfl) (ret_ok (bin_ok (bin_ok (call_ok (acons_ok (lx hj2 rfl rfl) (acons_ok (lx hj2 rfl rfl) rfl)) rfl eb) rfl (div_ii (by decide) (sml (by decide) (by decide +kernel)))) rfl (mod_ii w0)))))), Int.emod_nonneg _ (Int.ne_of_gt w0), Int.emod_lt_of_pos _ w0, ?_⟩
    exact ⟨j, i, own', dig', mix', cnt + 1, rfl, hij, hj2, hi2, hl', d0', by omega, by omega⟩
theorem ok_pick (T : T08 K mg) : ∃ g, FnL P w K mg base 3 T.f__law_pick T.fd__law_pick ["_law_pot_here", "_law_some"] g ∧ SPick g := by
  obtain ⟨gd, Fn__law_draw, Sd⟩ := ok_draw (P := P) (w := w) (base := base) T
  refine ⟨_, Fun.okL T.F__law_pick sc__law_pick fun cdv A outer s H E hr =>
(pssl_one (psl_ret (pel_ix ixl_seq (pel_var (i := 1)) (pel_call Fn__law_draw (hr.mono (by decide)) rfl T.mg__law_draw T.F__law_draw.kp T.b__law_draw dfl_nil (pal_cons (pel_var (i := 0)) (pal_cons (pel_callB (cl_len) rfl T.n_len (by decide +kernel) (pal_cons (pel_var (i := 1)) pal_nil)) pal_nil)))))), ?_⟩
  intro n S d xs hp hn hx hl
  have hz : 0 < xs.length := by cases xs with
    | nil => exact absurd rfl hx
    | cons _ _ => simp
  have b2 : (1000 : Int) < 10 ^ 200 := by decide +kernel
  obtain ⟨v, S', e, h0, h1, hp'⟩ := Sd n S d (xs.length : Int) hp hn (by omega) (by omega)
  have hv : v.toNat < xs.length := by omega
  refine ⟨xs[v.toNat], S', List.getElem_mem hv, body_rt (ret_ok (bin_ok rfl (call_ok (acons_ok rfl (acons_ok (callb_ok (acons_ok rfl rfl) rfl) rfl)) rfl e) ?_)), hp'⟩
  show atI xs v = _
  unfold atI ixN
  rw [if_pos h0, if_pos h1]
  exact List.getElem?_eq_getElem hv
end
end K08

namespace K08
open PySem PySem.Spec PyProof.Rows L2 MP
/-! ### exceptions -/
theorem ife_tt {t : LT} {la lb : LE} {ρ : Ev} {S S1 : Sto} {r : R D} (h : t ρ S = .ok true S1) (h2 : la ρ S1 = r) : lIf t la lb ρ S = r := by
  unfold lIf; rw [h, bind_ok, if_pos rfl]; exact h2
theorem ife_ff {t : LT} {la lb : LE} {ρ : Ev} {S S1 : Sto} {r : R D} (h : t ρ S = .ok false S1) (h2 : lb ρ S1 = r) : lIf t la lb ρ S = r := by
  unfold lIf; rw [h, bind_ok, if_neg Bool.false_ne_true]; exact h2
theorem catL {S : Sto} {a b : List D} {x y : D} {c : List D} (e1 : vw S x = .lst a) (e2 : vw S y = .lst b) (h : a ++ b = c) (hz : c.length ≤ 1000) (n1 : gAdd S x y = none := by rfl) : gAdd2 S x y = some (.lst c) := by
  unfold gAdd2 gCatL g2L
  rw [n1, e1, e2]
  show (if a.length + b.length ≤ sizeLine then some (D.lst (a ++ b)) else none) = _
  rw [if_pos (by rw [← List.length_append, h]; exact Nat.le_trans hz (by decide)), h]
theorem trya_ok {i : Nat} {tab : Addr → Option Bool} {lb ls : LS} {ρ ρ' ρ2 : Ev} {S S1 S2 : Sto} {C : Addr} {fs : List (Str × D)} (h : lb ρ S = .ok (.ex C fs ρ') S1) (ht : tab C = some true) (h2 : ls (ρ'.set i (some (.exn C fs))) S1 = .ok (.nx ρ2) S2) : lTryA i tab lb ls ρ S = .ok (.nx (ρ2.set i none)) S2 := by
  unfold lTryA
  rw [h, bind_ok]
  unfold catchH
  dsimp only
  rw [ht]
  dsimp only
  rw [h2, bind_ok]
  rfl

theorem spE_len {K : PySem.W.Frag} {ps fs : List Str} (hp : ps.length = fs.length + 1) : ∀ vs H Q E, spE K fs vs H Q E → vs.length = ps.length := fun vs H Q E ⟨e, C, ys, ev, hl, _⟩ => by rw [ev, hp, List.length_cons, hl]
section
variable {P : Program} {w : World} {K : PySem.W.Frag} {mg : Str → Option Value} {base : Heap}
theorem fe_NoMember (T : T08 K mg) : FnE P w K mg base 1 T.f_NoMember___init__ T.fd_NoMember___init__ ["self", "name"] ["name"] :=
  Fun.okG T.F_NoMember___init__ sc_NoMember___init__ (spE_len rfl) fun cdv A outer s H vs Q E hr h => ⟨_, pss_cons (ps_expr (pe_loinit T.li rfl T.mg_LotError (pa_cons (pv 0) (pa_cons pe_str pa_nil)))) (pss_cons (ps_ost (pv 0) (pv 1)) pss_nil), rd_init1 h⟩
theorem fe_NoDrawing (T : T08 K mg) : FnE P w K mg base 1 T.f_NoDrawing___init__ T.fd_NoDrawing___init__ ["self", "thing"] ["thing"] :=
  Fun.okG T.F_NoDrawing___init__ sc_NoDrawing___init__ (spE_len rfl) fun cdv A outer s H vs Q E hr h => ⟨_, pss_cons (ps_expr (pe_loinit T.li rfl T.mg_LotError (pa_cons (pv 0) (pa_cons pe_str pa_nil)))) (pss_cons (ps_ost (pv 0) (pv 1)) pss_nil), rd_init1 h⟩
theorem fe_TooFew (T : T08 K mg) : FnE P w K mg base 1 T.f_TooFew___init__ T.fd_TooFew___init__ ["self", "lot"] ["lot"] :=
  Fun.okG T.F_TooFew___init__ sc_TooFew___init__ (spE_len rfl) fun cdv A outer s H vs Q E hr h => ⟨_, pss_cons (ps_expr (pe_loinit T.li rfl T.mg_LotError (pa_cons (pv 0) (pa_cons pe_str pa_nil)))) (pss_cons (ps_ost (pv 0) (pv 1)) pss_nil), rd_init1 h⟩
theorem fe_NoNumber (T : T08 K mg) : FnE P w K mg base 1 T.f_NoNumber___init__ T.fd_NoNumber___init__ ["self", "number"] ["number"] :=
  Fun.okG T.F_NoNumber___init__ sc_NoNumber___init__ (spE_len rfl) fun cdv A outer s H vs Q E hr h => ⟨_, pss_cons (ps_expr (pe_loinit T.li rfl T.mg_LotError (pa_cons (pv 0) (pa_cons pe_str pa_nil)))) (pss_cons (ps_ost (pv 0) (pv 1)) pss_nil), rd_init1 h⟩
theorem fe_TooMany (T : T08 K mg) : FnE P w K mg base 1 T.f_TooMany___init__ T.fd_TooMany___init__ ["self", "many"] ["many"] :=
  Fun.okG T.F_TooMany___init__ sc_TooMany___init__ (spE_len rfl) fun cdv A outer s H vs Q E hr h => ⟨_, pss_cons (ps_expr (pe_loinit T.li rfl T.mg_LotError (pa_cons (pv 0) (pa_cons pe_str pa_nil)))) (pss_cons (ps_ost (pv 0) (pv 1)) pss_nil), rd_init1 h⟩
theorem fe_Twice (T : T08 K mg) : FnE P w K mg base 1 T.f_Twice___init__ T.fd_Twice___init__ ["self", "name"] ["name"] :=
  Fun.okG T.F_Twice___init__ sc_Twice___init__ (spE_len rfl) fun cdv A outer s H vs Q E hr h => ⟨_, pss_cons (ps_expr (pe_loinit T.li rfl T.mg_LotError (pa_cons (pv 0) (pa_cons pe_str pa_nil)))) (pss_cons (ps_ost (pv 0) (pv 1)) pss_nil), rd_init1 h⟩
theorem fe_NoText (T : T08 K mg) : FnE P w K mg base 1 T.f_NoText___init__ T.fd_NoText___init__ ["self", "row"] ["row"] :=
  Fun.okG T.F_NoText___init__ sc_NoText___init__ (spE_len rfl) fun cdv A outer s H vs Q E hr h => ⟨_, pss_cons (ps_expr (pe_loinit T.li rfl T.mg_LotError (pa_cons (pv 0) (pa_cons pe_str pa_nil)))) (pss_cons (ps_ost (pv 0) (pv 1)) pss_nil), rd_init1 h⟩
theorem fe_NoBar (T : T08 K mg) : FnE P w K mg base 1 T.f_NoBar___init__ T.fd_NoBar___init__ ["self", "giver", "taker"] ["giver", "taker"] :=
  Fun.okG T.F_NoBar___init__ sc_NoBar___init__ (spE_len rfl) fun cdv A outer s H vs Q E hr h => ⟨_, pss_cons (ps_expr (pe_loinit T.li rfl T.mg_LotError (pa_cons (pv 0) (pa_cons pe_str pa_nil)))) (pss_cons (ps_ost (pv 0) (pv 1)) (pss_cons (ps_ost (pv 0) (pv 2)) pss_nil)), rd_init2 h⟩
/-- the exception of way k that bears x -/
def exD (T : T08 K mg) (x : D) : Nat → D
  | 0 => .exn T.C_NoMember [("name", x)]
  | 1 => .exn T.C_NoDrawing [("thing", x)]
  | 2 => .exn T.C_TooFew [("lot", x)]
  | 3 => .exn T.C_NoNumber [("number", x)]
  | 4 => .exn T.C_TooMany [("many", x)]
  | 5 => .exn T.C_Twice [("name", x)]
  | 6 => .exn T.C_NoText [("row", x)]
  | _ => .non
def SMade (T : T08 K mg) (g : F) : Prop := ∀ (S : Sto) (k : Nat) (x : D) (b : Bool), k < 7 → g [.int (k : Int), x, .bl b] S = .ok (exD T x k) S
def SKept (T : T08 K mg) (g : F) : Prop := ∀ (S : Sto) (k : Nat) (x : D), k < 7 → g [.int (k : Int), exD T x k] S = .ok x S
def flags (k : Nat) : List D := [.bl (0 == k), .bl (1 == k), .bl (2 == k), .bl (3 == k), .bl (4 == k), .bl (5 == k), .bl (6 == k), .bl (7 == k), .bl (8 == k), .bl (9 == k), .bl (10 == k)]
def clsOf (T : T08 K mg) : Nat → Addr
  | 0 => T.C_NoMember
  | 1 => T.C_NoDrawing
  | 2 => T.C_TooFew
  | 3 => T.C_NoNumber
  | 4 => T.C_TooMany
  | 5 => T.C_Twice
  | 6 => T.C_NoText
  | 7 => T.C_NoBar
  | 8 => T.C_NoYear
  | 9 => T.C_NoBack
  | 10 => T.C_NoRow
  | _ => T.C_LotError
def SCls (T : T08 K mg) (g : F) : Prop := ∀ (S : Sto) (k : Nat) (fs : List (Str × D)), k < 11 → g [.exn (clsOf T k) fs] S = .ok (.lst (flags k)) S
theorem lt7 {p : Nat → Prop} (h : p 0 ∧ p 1 ∧ p 2 ∧ p 3 ∧ p 4 ∧ p 5 ∧ p 6) : ∀ k, k < 7 → p k
  | 0, _ => h.1
  | 1, _ => h.2.1
  | 2, _ => h.2.2.1
  | 3, _ => h.2.2.2.1
  | 4, _ => h.2.2.2.2.1
  | 5, _ => h.2.2.2.2.2.1
  | 6, _ => h.2.2.2.2.2.2
  | n + 7, h => by omega
theorem lt11 {p : Nat → Prop} (h : p 0 ∧ p 1 ∧ p 2 ∧ p 3 ∧ p 4 ∧ p 5 ∧ p 6 ∧ p 7 ∧ p 8 ∧ p 9 ∧ p 10) : ∀ k, k < 11 → p k
  | 0, _ => h.1
  | 1, _ => h.2.1
  | 2, _ => h.2.2.1
  | 3, _ => h.2.2.2.1
  | 4, _ => h.2.2.2.2.1
  | 5, _ => h.2.2.2.2.2.1
  | 6, _ => h.2.2.2.2.2.2.1
  | 7, _ => h.2.2.2.2.2.2.2.1
  | 8, _ => h.2.2.2.2.2.2.2.2.1
  | 9, _ => h.2.2.2.2.2.2.2.2.2.1
  | 10, _ => h.2.2.2.2.2.2.2.2.2.2
  | n + 11, h => by omega
theorem ok_made (T : T08 K mg) : ∃ g, FnL P w K mg base 3 T.f__law_made T.fd__law_made ["_law_way", "_law_held", "_law_by_name"] g ∧ SMade T g := by
  have FnE_NoMember := fe_NoMember (P := P) (w := w) (base := base) T
  have FnE_NoDrawing := fe_NoDrawing (P := P) (w := w) (base := base) T
  have FnE_TooFew := fe_TooFew (P := P) (w := w) (base := base) T
  have FnE_NoNumber := fe_NoNumber (P := P) (w := w) (base := base) T
  have FnE_TooMany := fe_TooMany (P := P) (w := w) (base := base) T
  have FnE_Twice := fe_Twice (P := P) (w := w) (base := base) T
  have FnE_NoText := fe_NoText (P := P) (w := w) (base := base) T
  refine ⟨_, Fun.okL T.F__law_made sc__law_made fun cdv A outer s H E hr =>
(pssl_cons (psl_if (ptl_cmp (opl_eq hr.units) (pel_var (i := 0)) pel_int) (pssl_one (psl_ret (pel_ifExp (ptl_truth (pel_var (i := 2))) (pel_makeEk (pk := [0]) T.mkE_NoMember FnE_NoMember (hr.mono (by decide)) rfl T.mg_NoMember T.kw_NoMember_name (pkl_cons (pel_var (i := 1)) pkl_nil)) (pel_makeE T.mkE_NoMember FnE_NoMember (hr.mono (by decide)) rfl T.mg_NoMember T.b_NoMember___init__ (pal_cons (pel_var (i := 1)) pal_nil))))) pssl_nil)
  (pssl_cons (psl_if (ptl_cmp (opl_eq hr.units) (pel_var (i := 0)) pel_int) (pssl_one (psl_ret (pel_ifExp (ptl_truth (pel_var (i := 2))) (pel_makeEk (pk := [0]) T.mkE_NoDrawing FnE_NoDrawing (hr.mono (by decide)) rfl T.mg_NoDrawing T.kw_NoDrawing_thing (pkl_cons (pel_var (i := 1)) pkl_nil)) (pel_makeE T.mkE_NoDrawing FnE_NoDrawing (hr.mono (by decide)) rfl T.mg_NoDrawing T.b_NoDrawing___init__ (pal_cons (pel_var (i := 1)) pal_nil))))) pssl_nil)
  (pssl_cons (psl_if (ptl_cmp (opl_eq hr.units) (pel_var (i := 0)) pel_int) (pssl_one (psl_ret (pel_ifExp (ptl_truth (pel_var (i := 2))) (pel_makeEk (pk := [0]) T.mkE_TooFew FnE_TooFew (hr.mono (by decide)) rfl T.mg_TooFew T.kw_TooFew_lot (pkl_cons (pel_var (i := 1)) pkl_nil)) (pel_makeE T.mkE_TooFew FnE_TooFew (hr.mono (by decide)) rfl T.mg_TooFew T.b_TooFew___init__ (pal_cons (pel_var (i := 1)) pal_nil))))) pssl_nil)
  (pssl_cons (psl_if (ptl_cmp (opl_eq hr.units) (pel_var (i := 0)) pel_int) (pssl_one (psl_ret (pel_ifExp (ptl_truth (pel_var (i := 2))) (pel_makeEk (pk := [0]) T.mkE_NoNumber FnE_NoNumber (hr.mono (by decide)) rfl T.mg_NoNumber T.kw_NoNumber_number (pkl_cons (pel_var (i := 1)) pkl_nil)) (pel_makeE T.mkE_NoNumber FnE_NoNumber (hr.mono (by decide)) rfl T.mg_NoNumber T.b_NoNumber___init__ (pal_cons (pel_var (i := 1)) pal_nil))))) pssl_nil)
  (pssl_cons (psl_if (ptl_cmp (opl_eq hr.units) (pel_var (i := 0)) pel_int) (pssl_one (psl_ret (pel_ifExp (ptl_truth (pel_var (i := 2))) (pel_makeEk (pk := [0]) T.mkE_TooMany FnE_TooMany (hr.mono (by decide)) rfl T.mg_TooMany T.kw_TooMany_many (pkl_cons (pel_var (i := 1)) pkl_nil)) (pel_makeE T.mkE_TooMany FnE_TooMany (hr.mono (by decide)) rfl T.mg_TooMany T.b_TooMany___init__ (pal_cons (pel_var (i := 1)) pal_nil))))) pssl_nil)
  (pssl_cons (psl_if (ptl_cmp (opl_eq hr.units) (pel_var (i := 0)) pel_int) (pssl_one (psl_ret (pel_ifExp (ptl_truth (pel_var (i := 2))) (pel_makeEk (pk := [0]) T.mkE_Twice FnE_Twice (hr.mono (by decide)) rfl T.mg_Twice T.kw_Twice_name (pkl_cons (pel_var (i := 1)) pkl_nil)) (pel_makeE T.mkE_Twice FnE_Twice (hr.mono (by decide)) rfl T.mg_Twice T.b_Twice___init__ (pal_cons (pel_var (i := 1)) pal_nil))))) pssl_nil)
  (pssl_one (psl_ret (pel_ifExp (ptl_truth (pel_var (i := 2))) (pel_makeEk (pk := [0]) T.mkE_NoText FnE_NoText (hr.mono (by decide)) rfl T.mg_NoText T.kw_NoText_row (pkl_cons (pel_var (i := 1)) pkl_nil)) (pel_makeE T.mkE_NoText FnE_NoText (hr.mono (by decide)) rfl T.mg_NoText T.b_NoText___init__ (pal_cons (pel_var (i := 1)) pal_nil))))))))))), ?_⟩
  intro S k x b hk
  revert k
  cases b with
  | true => exact lt7 ⟨rfl, rfl, rfl, rfl, rfl, rfl, rfl⟩
  | false => exact lt7 ⟨rfl, rfl, rfl, rfl, rfl, rfl, rfl⟩
theorem ok_kept (T : T08 K mg) : ∃ g, FnL P w K mg base 1 T.f__law_kept T.fd__law_kept ["_law_way", "_law_made_here"] g ∧ SKept T g := by
  refine ⟨_, Fun.okL T.F__law_kept sc__law_kept fun cdv A outer s H E hr =>
(pssl_cons (psl_if (PWL.pt (pwl_or (ptl_cmp (opl_eq hr.units) (pel_var (i := 0)) pel_int) (pwl_or1 (ptl_cmp (opl_eq hr.units) (pel_var (i := 0)) pel_int)))) (pssl_one (psl_ret (pel_fldE (Cs := [T.C_NoMember, T.C_Twice]) (fun C h => by rcases mem2 h with h | h <;> rw [h] <;> first | exact ⟨T.xf_NoMember, T.no_NoMember_name⟩ | exact ⟨T.xf_Twice, T.no_Twice_name⟩) (pel_var (i := 1))))) pssl_nil)
  (pssl_cons (psl_if (ptl_cmp (opl_eq hr.units) (pel_var (i := 0)) pel_int) (pssl_one (psl_ret (pel_fldE (Cs := [T.C_NoDrawing]) (fun C h => by rw [List.mem_singleton.mp h]; exact ⟨T.xf_NoDrawing, T.no_NoDrawing_thing⟩) (pel_var (i := 1))))) pssl_nil)
  (pssl_cons (psl_if (ptl_cmp (opl_eq hr.units) (pel_var (i := 0)) pel_int) (pssl_one (psl_ret (pel_fldE (Cs := [T.C_TooFew]) (fun C h => by rw [List.mem_singleton.mp h]; exact ⟨T.xf_TooFew, T.no_TooFew_lot⟩) (pel_var (i := 1))))) pssl_nil)
  (pssl_cons (psl_if (ptl_cmp (opl_eq hr.units) (pel_var (i := 0)) pel_int) (pssl_one (psl_ret (pel_fldE (Cs := [T.C_NoNumber]) (fun C h => by rw [List.mem_singleton.mp h]; exact ⟨T.xf_NoNumber, T.no_NoNumber_number⟩) (pel_var (i := 1))))) pssl_nil)
  (pssl_one (psl_ret (pel_ifExp (ptl_cmp (opl_eq hr.units) (pel_var (i := 0)) pel_int) (pel_fldE (Cs := [T.C_TooMany]) (fun C h => by rw [List.mem_singleton.mp h]; exact ⟨T.xf_TooMany, T.no_TooMany_many⟩) (pel_var (i := 1))) (pel_fldE (Cs := [T.C_NoText]) (fun C h => by rw [List.mem_singleton.mp h]; exact ⟨T.xf_NoText, T.no_NoText_row⟩) (pel_var (i := 1)))))))))), ?_⟩
  intro S k x hk
  revert k
  have e : ∀ (i j : Nat) (d : D) (S : Sto), tTru (lBin gEq (lVar 0) (lC (.int (j : Int)))) [some (.int (i : Int)), some d] S = .ok (decide (i = j)) S := fun i j d S => tru_b (bin_ok rfl rfl eq_ii) (decide_eq_decide.mpr (by omega))
  refine lt7 ⟨?_, ?_, ?_, ?_, ?_, ?_, ?_⟩
  · exact body_rt (seq_rt (if_tt (or_tt (e 0 0 _ _)) (ret_ok (flde_ok rfl (by simp) rfl))))
  · exact body_rt (seq_nx (if_ff (or_ff (e 1 0 _ _) (e 1 5 _ _)) rfl) (seq_rt (if_tt (e 1 1 _ _) (ret_ok (flde_ok rfl (by simp) rfl)))))
  · exact body_rt (seq_nx (if_ff (or_ff (e 2 0 _ _) (e 2 5 _ _)) rfl) (seq_nx (if_ff (e 2 1 _ _) rfl) (seq_rt (if_tt (e 2 2 _ _) (ret_ok (flde_ok rfl (by simp) rfl))))))
  · exact body_rt (seq_nx (if_ff (or_ff (e 3 0 _ _) (e 3 5 _ _)) rfl) (seq_nx (if_ff (e 3 1 _ _) rfl) (seq_nx (if_ff (e 3 2 _ _) rfl) (seq_rt (if_tt (e 3 3 _ _) (ret_ok (flde_ok rfl (by simp) rfl)))))))
  · exact body_rt (seq_nx (if_ff (or_ff (e 4 0 _ _) (e 4 5 _ _)) rfl) (seq_nx (if_ff (e 4 1 _ _) rfl) (seq_nx (if_ff (e 4 2 _ _) rfl) (seq_nx (if_ff (e 4 3 _ _) rfl) (ret_ok (ife_tt (e 4 4 _ _) (flde_ok rfl (by simp) rfl)))))))
  · exact body_rt (seq_rt (if_tt (or_ff (e 5 0 _ _) (e 5 5 _ _)) (ret_ok (flde_ok rfl (by simp) rfl))))
  · exact body_rt (seq_nx (if_ff (or_ff (e 6 0 _ _) (e 6 5 _ _)) rfl) (seq_nx (if_ff (e 6 1 _ _) rfl) (seq_nx (if_ff (e 6 2 _ _) rfl) (seq_nx (if_ff (e 6 3 _ _) rfl) (ret_ok (ife_ff (e 6 4 _ _) (flde_ok rfl (by simp) rfl)))))))
theorem ok_cls (T : T08 K mg) : ∃ g, FnL P w K mg base 1 T.f__law_classes T.fd__law_classes ["_law_made_here"] g ∧ SCls T g := by
  refine ⟨_, Fun.okL T.F__law_classes sc__law_classes fun cdv A outer s H E hr =>
(pssl_cons (psl_set (i := 1) sc__law_classes.nd (pel_lst (pal_cons (pel_isE rfl T.n_isinstance (pel_var (i := 0)) (pe_glob rfl T.mg_NoMember (v := .ref T.C_NoMember) rfl) (.own _) (tabE_ok K _)) (pal_cons (pel_isE rfl T.n_isinstance (pel_var (i := 0)) (pe_glob rfl T.mg_NoDrawing (v := .ref T.C_NoDrawing) rfl) (.own _) (tabE_ok K _)) (pal_cons (pel_isE rfl T.n_isinstance (pel_var (i := 0)) (pe_glob rfl T.mg_TooFew (v := .ref T.C_TooFew) rfl) (.own _) (tabE_ok K _)) pal_nil)))))
  (pssl_cons (psl_set (i := 1) sc__law_classes.nd (pel_op opl_add2 (pel_var (i := 1)) (pel_lst (pal_cons (pel_isE rfl T.n_isinstance (pel_var (i := 0)) (pe_glob rfl T.mg_NoNumber (v := .ref T.C_NoNumber) rfl) (.own _) (tabE_ok K _)) (pal_cons (pel_isE rfl T.n_isinstance (pel_var (i := 0)) (pe_glob rfl T.mg_TooMany (v := .ref T.C_TooMany) rfl) (.own _) (tabE_ok K _)) (pal_cons (pel_isE rfl T.n_isinstance (pel_var (i := 0)) (pe_glob rfl T.mg_Twice (v := .ref T.C_Twice) rfl) (.own _) (tabE_ok K _)) pal_nil))))))
  (pssl_cons (psl_set (i := 1) sc__law_classes.nd (pel_op opl_add2 (pel_var (i := 1)) (pel_lst (pal_cons (pel_isE rfl T.n_isinstance (pel_var (i := 0)) (pe_glob rfl T.mg_NoText (v := .ref T.C_NoText) rfl) (.own _) (tabE_ok K _)) (pal_cons (pel_isE rfl T.n_isinstance (pel_var (i := 0)) (pe_glob rfl T.mg_NoBar (v := .ref T.C_NoBar) rfl) (.own _) (tabE_ok K _)) (pal_cons (pel_isE rfl T.n_isinstance (pel_var (i := 0)) (pe_glob rfl T.mg_NoYear (v := .ref T.C_NoYear) rfl) (.own _) (tabE_ok K _)) pal_nil))))))
  (pssl_one (psl_ret (pel_op opl_add2 (pel_var (i := 1)) (pel_lst (pal_cons (pel_isE rfl T.n_isinstance (pel_var (i := 0)) (pe_glob rfl T.mg_NoBack (v := .ref T.C_NoBack) rfl) (.own _) (tabE_ok K _)) (pal_cons (pel_isE rfl T.n_isinstance (pel_var (i := 0)) (pe_glob rfl T.mg_NoRow (v := .ref T.C_NoRow) rfl) (.own _) (tabE_ok K _)) pal_nil))))))))), ?_⟩
  intro S k fs hk
  revert k
  refine lt11 ⟨?_, ?_, ?_, ?_, ?_, ?_, ?_, ?_, ?_, ?_, ?_⟩
  · exact body_rt (seq_nx (set_ok (lst_ok (acons_ok (ise_ok T.ec_NoMember T.ko_NoMember_NoMember rfl) (acons_ok (ise_ok T.ec_NoMember T.ko_NoMember_NoDrawing rfl) (acons_ok (ise_ok T.ec_NoMember T.ko_NoMember_TooFew rfl) rfl))) (by simp))) (seq_nx (set_ok (bin_ok rfl (lst_ok (acons_ok (ise_ok T.ec_NoMember T.ko_NoMember_NoNumber rfl) (acons_ok (ise_ok T.ec_NoMember T.ko_NoMember_TooMany rfl) (acons_ok (ise_ok T.ec_NoMember T.ko_NoMember_Twice rfl) rfl))) (by simp)) (catL rfl rfl rfl (by simp)))) (seq_nx (set_ok (bin_ok rfl (lst_ok (acons_ok (ise_ok T.ec_NoMember T.ko_NoMember_NoText rfl) (acons_ok (ise_ok T.ec_NoMember T.ko_NoMember_NoBar rfl) (acons_ok (ise_ok T.ec_NoMember T.ko_NoMember_NoYear rfl) rfl))) (by simp)) (catL rfl rfl rfl (by simp)))) (ret_ok (bin_ok rfl (lst_ok (acons_ok (ise_ok T.ec_NoMember T.ko_NoMember_NoBack rfl) (acons_ok (ise_ok T.ec_NoMember T.ko_NoMember_NoRow rfl) rfl)) (by simp)) (catL rfl rfl rfl (by decide)))))))
  · exact body_rt (seq_nx (set_ok (lst_ok (acons_ok (ise_ok T.ec_NoDrawing T.ko_NoDrawing_NoMember rfl) (acons_ok (ise_ok T.ec_NoDrawing T.ko_NoDrawing_NoDrawing rfl) (acons_ok (ise_ok T.ec_NoDrawing T.ko_NoDrawing_TooFew rfl) rfl))) (by simp))) (seq_nx (set_ok (bin_ok rfl (lst_ok (acons_ok (ise_ok T.ec_NoDrawing T.ko_NoDrawing_NoNumber rfl) (acons_ok (ise_ok T.ec_NoDrawing T.ko_NoDrawing_TooMany rfl) (acons_ok (ise_ok T.ec_NoDrawing T.ko_NoDrawing_Twice rfl) rfl))) (by simp)) (catL rfl rfl rfl (by simp)))) (seq_nx (set_ok (bin_ok rfl (lst_ok (acons_ok (ise_ok T.ec_NoDrawing T.ko_NoDrawing_NoText rfl) (acons_ok (ise_ok T.ec_NoDrawing T.ko_NoDrawing_NoBar rfl) (acons_ok (ise_ok T.ec_NoDrawing T.ko_NoDrawing_NoYear rfl) rfl))) (by simp)) (catL rfl rfl rfl (by simp)))) (ret_ok (bin_ok rfl (lst_ok (acons_ok (ise_ok T.ec_NoDrawing T.ko_NoDrawing_NoBack rfl) (acons_ok (ise_ok T.ec_NoDrawing T.ko_NoDrawing_NoRow rfl) rfl)) (by simp)) (catL rfl rfl rfl (by decide)))))))
  · exact body_rt (seq_nx (set_ok (lst_ok (acons_ok (ise_ok T.ec_TooFew T.ko_TooFew_NoMember rfl) (acons_ok (ise_ok T.ec_TooFew T.ko_TooFew_NoDrawing rfl) (acons_ok (ise_ok T.ec_TooFew T.ko_TooFew_TooFew rfl) rfl))) (by simp))) (seq_nx (set_ok (bin_ok rfl (lst_ok (acons_ok (ise_ok T.ec_TooFew T.ko_TooFew_NoNumber rfl) (acons_ok (ise_ok T.ec_TooFew T.ko_TooFew_TooMany rfl) (acons_ok (ise_ok T.ec_TooFew T.ko_TooFew_Twice rfl) rfl))) (by simp)) (catL rfl rfl rfl (by simp)))) (seq_nx (set_ok (bin_ok rfl (lst_ok (acons_ok (ise_ok T.ec_TooFew T.ko_TooFew_NoText rfl) (acons_ok (ise_ok T.ec_TooFew T.ko_TooFew_NoBar rfl) (acons_ok (ise_ok T.ec_TooFew T.ko_TooFew_NoYear rfl) rfl))) (by simp)) (catL rfl rfl rfl (by simp)))) (ret_ok (bin_ok rfl (lst_ok (acons_ok (ise_ok T.ec_TooFew T.ko_TooFew_NoBack rfl) (acons_ok (ise_ok T.ec_TooFew T.ko_TooFew_NoRow rfl) rfl)) (by simp)) (catL rfl rfl rfl (by decide)))))))
  · exact body_rt (seq_nx (set_ok (lst_ok (acons_ok (ise_ok T.ec_NoNumber T.ko_NoNumber_NoMember rfl) (acons_ok (ise_ok T.ec_NoNumber T.ko_NoNumber_NoDrawing rfl) (acons_ok (ise_ok T.ec_NoNumber T.ko_NoNumber_TooFew rfl) rfl))) (by simp))) (seq_nx (set_ok (bin_ok rfl (lst_ok (acons_ok (ise_ok T.ec_NoNumber T.ko_NoNumber_NoNumber rfl) (acons_ok (ise_ok T.ec_NoNumber T.ko_NoNumber_TooMany rfl) (acons_ok (ise_ok T.ec_NoNumber T.ko_NoNumber_Twice rfl) rfl))) (by simp)) (catL rfl rfl rfl (by simp)))) (seq_nx (set_ok (bin_ok rfl (lst_ok (acons_ok (ise_ok T.ec_NoNumber T.ko_NoNumber_NoText rfl) (acons_ok (ise_ok T.ec_NoNumber T.ko_NoNumber_NoBar rfl) (acons_ok (ise_ok T.ec_NoNumber T.ko_NoNumber_NoYear rfl) rfl))) (by simp)) (catL rfl rfl rfl (by simp)))) (ret_ok (bin_ok rfl (lst_ok (acons_ok (ise_ok T.ec_NoNumber T.ko_NoNumber_NoBack rfl) (acons_ok (ise_ok T.ec_NoNumber T.ko_NoNumber_NoRow rfl) rfl)) (by simp)) (catL rfl rfl rfl (by decide)))))))
  · exact body_rt (seq_nx (set_ok (lst_ok (acons_ok (ise_ok T.ec_TooMany T.ko_TooMany_NoMember rfl) (acons_ok (ise_ok T.ec_TooMany T.ko_TooMany_NoDrawing rfl) (acons_ok (ise_ok T.ec_TooMany T.ko_TooMany_TooFew rfl) rfl))) (by simp))) (seq_nx (set_ok (bin_ok rfl (lst_ok (acons_ok (ise_ok T.ec_TooMany T.ko_TooMany_NoNumber rfl) (acons_ok (ise_ok T.ec_TooMany T.ko_TooMany_TooMany rfl) (acons_ok (ise_ok T.ec_TooMany T.ko_TooMany_Twice rfl) rfl))) (by simp)) (catL rfl rfl rfl (by simp)))) (seq_nx (set_ok (bin_ok rfl (lst_ok (acons_ok (ise_ok T.ec_TooMany T.ko_TooMany_NoText rfl) (acons_ok (ise_ok T.ec_TooMany T.ko_TooMany_NoBar rfl) (acons_ok (ise_ok T.ec_TooMany T.ko_TooMany_NoYear rfl) rfl))) (by simp)) (catL rfl rfl rfl (by simp)))) (ret_ok (bin_ok rfl (lst_ok (acons_ok (ise_ok T.ec_TooMany T.ko_TooMany_NoBack rfl) (acons_ok (ise_ok T.ec_TooMany T.ko_TooMany_NoRow rfl) rfl)) (by simp)) (catL rfl rfl rfl (by decide)))))))
  · exact body_rt (seq_nx (set_ok (lst_ok (acons_ok (ise_ok T.ec_Twice T.ko_Twice_NoMember rfl) (acons_ok (ise_ok T.ec_Twice T.ko_Twice_NoDrawing rfl) (acons_ok (ise_ok T.ec_Twice T.ko_Twice_TooFew rfl) rfl))) (by simp))) (seq_nx (set_ok (bin_ok rfl (lst_ok (acons_ok (ise_ok T.ec_Twice T.ko_Twice_NoNumber rfl) (acons_ok (ise_ok T.ec_Twice T.ko_Twice_TooMany rfl) (acons_ok (ise_ok T.ec_Twice T.ko_Twice_Twice rfl) rfl))) (by simp)) (catL rfl rfl rfl (by simp)))) (seq_nx (set_ok (bin_ok rfl (lst_ok (acons_ok (ise_ok T.ec_Twice T.ko_Twice_NoText rfl) (acons_ok (ise_ok T.ec_Twice T.ko_Twice_NoBar rfl) (acons_ok (ise_ok T.ec_Twice T.ko_Twice_NoYear rfl) rfl))) (by simp)) (catL rfl rfl rfl (by simp)))) (ret_ok (bin_ok rfl (lst_ok (acons_ok (ise_ok T.ec_Twice T.ko_Twice_NoBack rfl) (acons_ok (ise_ok T.ec_Twice T.ko_Twice_NoRow rfl) rfl)) (by simp)) (catL rfl rfl rfl (by decide)))))))
  · exact body_rt (seq_nx (set_ok (lst_ok (acons_ok (ise_ok T.ec_NoText T.ko_NoText_NoMember rfl) (acons_ok (ise_ok T.ec_NoText T.ko_NoText_NoDrawing rfl) (acons_ok (ise_ok T.ec_NoText T.ko_NoText_TooFew rfl) rfl))) (by simp))) (seq_nx (set_ok (bin_ok rfl (lst_ok (acons_ok (ise_ok T.ec_NoText T.ko_NoText_NoNumber rfl) (acons_ok (ise_ok T.ec_NoText T.ko_NoText_TooMany rfl) (acons_ok (ise_ok T.ec_NoText T.ko_NoText_Twice rfl) rfl))) (by simp)) (catL rfl rfl rfl (by simp)))) (seq_nx (set_ok (bin_ok rfl (lst_ok (acons_ok (ise_ok T.ec_NoText T.ko_NoText_NoText rfl) (acons_ok (ise_ok T.ec_NoText T.ko_NoText_NoBar rfl) (acons_ok (ise_ok T.ec_NoText T.ko_NoText_NoYear rfl) rfl))) (by simp)) (catL rfl rfl rfl (by simp)))) (ret_ok (bin_ok rfl (lst_ok (acons_ok (ise_ok T.ec_NoText T.ko_NoText_NoBack rfl) (acons_ok (ise_ok T.ec_NoText T.ko_NoText_NoRow rfl) rfl)) (by simp)) (catL rfl rfl rfl (by decide)))))))
  · exact body_rt (seq_nx (set_ok (lst_ok (acons_ok (ise_ok T.ec_NoBar T.ko_NoBar_NoMember rfl) (acons_ok (ise_ok T.ec_NoBar T.ko_NoBar_NoDrawing rfl) (acons_ok (ise_ok T.ec_NoBar T.ko_NoBar_TooFew rfl) rfl))) (by simp))) (seq_nx (set_ok (bin_ok rfl (lst_ok (acons_ok (ise_ok T.ec_NoBar T.ko_NoBar_NoNumber rfl) (acons_ok (ise_ok T.ec_NoBar T.ko_NoBar_TooMany rfl) (acons_ok (ise_ok T.ec_NoBar T.ko_NoBar_Twice rfl) rfl))) (by simp)) (catL rfl rfl rfl (by simp)))) (seq_nx (set_ok (bin_ok rfl (lst_ok (acons_ok (ise_ok T.ec_NoBar T.ko_NoBar_NoText rfl) (acons_ok (ise_ok T.ec_NoBar T.ko_NoBar_NoBar rfl) (acons_ok (ise_ok T.ec_NoBar T.ko_NoBar_NoYear rfl) rfl))) (by simp)) (catL rfl rfl rfl (by simp)))) (ret_ok (bin_ok rfl (lst_ok (acons_ok (ise_ok T.ec_NoBar T.ko_NoBar_NoBack rfl) (acons_ok (ise_ok T.ec_NoBar T.ko_NoBar_NoRow rfl) rfl)) (by simp)) (catL rfl rfl rfl (by decide)))))))
  · exact body_rt (seq_nx (set_ok (lst_ok (acons_ok (ise_ok T.ec_NoYear T.ko_NoYear_NoMember rfl) (acons_ok (ise_ok T.ec_NoYear T.ko_NoYear_NoDrawing rfl) (acons_ok (ise_ok T.ec_NoYear T.ko_NoYear_TooFew rfl) rfl))) (by simp))) (seq_nx (set_ok (bin_ok rfl (lst_ok (acons_ok (ise_ok T.ec_NoYear T.ko_NoYear_NoNumber rfl) (acons_ok (ise_ok T.ec_NoYear T.ko_NoYear_TooMany rfl) (acons_ok (ise_ok T.ec_NoYear T.ko_NoYear_Twice rfl) rfl))) (by simp)) (catL rfl rfl rfl (by simp)))) (seq_nx (set_ok (bin_ok rfl (lst_ok (acons_ok (ise_ok T.ec_NoYear T.ko_NoYear_NoText rfl) (acons_ok (ise_ok T.ec_NoYear T.ko_NoYear_NoBar rfl) (acons_ok (ise_ok T.ec_NoYear T.ko_NoYear_NoYear rfl) rfl))) (by simp)) (catL rfl rfl rfl (by simp)))) (ret_ok (bin_ok rfl (lst_ok (acons_ok (ise_ok T.ec_NoYear T.ko_NoYear_NoBack rfl) (acons_ok (ise_ok T.ec_NoYear T.ko_NoYear_NoRow rfl) rfl)) (by simp)) (catL rfl rfl rfl (by decide)))))))
  · exact body_rt (seq_nx (set_ok (lst_ok (acons_ok (ise_ok T.ec_NoBack T.ko_NoBack_NoMember rfl) (acons_ok (ise_ok T.ec_NoBack T.ko_NoBack_NoDrawing rfl) (acons_ok (ise_ok T.ec_NoBack T.ko_NoBack_TooFew rfl) rfl))) (by simp))) (seq_nx (set_ok (bin_ok rfl (lst_ok (acons_ok (ise_ok T.ec_NoBack T.ko_NoBack_NoNumber rfl) (acons_ok (ise_ok T.ec_NoBack T.ko_NoBack_TooMany rfl) (acons_ok (ise_ok T.ec_NoBack T.ko_NoBack_Twice rfl) rfl))) (by simp)) (catL rfl rfl rfl (by simp)))) (seq_nx (set_ok (bin_ok rfl (lst_ok (acons_ok (ise_ok T.ec_NoBack T.ko_NoBack_NoText rfl) (acons_ok (ise_ok T.ec_NoBack T.ko_NoBack_NoBar rfl) (acons_ok (ise_ok T.ec_NoBack T.ko_NoBack_NoYear rfl) rfl))) (by simp)) (catL rfl rfl rfl (by simp)))) (ret_ok (bin_ok rfl (lst_ok (acons_ok (ise_ok T.ec_NoBack T.ko_NoBack_NoBack rfl) (acons_ok (ise_ok T.ec_NoBack T.ko_NoBack_NoRow rfl) rfl)) (by simp)) (catL rfl rfl rfl (by decide)))))))
  · exact body_rt (seq_nx (set_ok (lst_ok (acons_ok (ise_ok T.ec_NoRow T.ko_NoRow_NoMember rfl) (acons_ok (ise_ok T.ec_NoRow T.ko_NoRow_NoDrawing rfl) (acons_ok (ise_ok T.ec_NoRow T.ko_NoRow_TooFew rfl) rfl))) (by simp))) (seq_nx (set_ok (bin_ok rfl (lst_ok (acons_ok (ise_ok T.ec_NoRow T.ko_NoRow_NoNumber rfl) (acons_ok (ise_ok T.ec_NoRow T.ko_NoRow_TooMany rfl) (acons_ok (ise_ok T.ec_NoRow T.ko_NoRow_Twice rfl) rfl))) (by simp)) (catL rfl rfl rfl (by simp)))) (seq_nx (set_ok (bin_ok rfl (lst_ok (acons_ok (ise_ok T.ec_NoRow T.ko_NoRow_NoText rfl) (acons_ok (ise_ok T.ec_NoRow T.ko_NoRow_NoBar rfl) (acons_ok (ise_ok T.ec_NoRow T.ko_NoRow_NoYear rfl) rfl))) (by simp)) (catL rfl rfl rfl (by simp)))) (ret_ok (bin_ok rfl (lst_ok (acons_ok (ise_ok T.ec_NoRow T.ko_NoRow_NoBack rfl) (acons_ok (ise_ok T.ec_NoRow T.ko_NoRow_NoRow rfl) rfl)) (by simp)) (catL rfl rfl rfl (by decide)))))))
theorem ok_raised (T : T08 K mg) : ∃ g, FnL P w K mg base 3 T.f__law_raised T.fd__law_raised ["_law_held"] g ∧ ∀ S x, g [x] S = .ok x S := by
  have FnE_TooFew := fe_TooFew (P := P) (w := w) (base := base) T
  refine ⟨_, Fun.okL T.F__law_raised sc__law_raised fun cdv A outer s H E hr =>
(pssl_cons (psl_set (i := 1) sc__law_raised.nd pel_non)
  (pssl_cons (psl_tryA (i := 2) rfl rfl sc__law_raised.nd rfl rfl ⟨rfl, by decide, .inl T.mg_LotError⟩ rfl (tab := fun C => PySem.W.exmOne K (.ref C) (.ref T.C_LotError)) (fun _ _ h => h) (fun _ _ _ => (pssl_one (psl_raiseE rfl T.mkE_TooFew FnE_TooFew (hr.mono (by decide)) rfl T.mg_TooFew T.b_TooFew___init__ (pal_cons (pel_var (i := 0)) pal_nil)))) (fun _ _ => (pssl_one (psl_set (i := 1) sc__law_raised.nd (pel_var (i := 2))))))
  (pssl_one (psl_ret (pel_fldE (Cs := [T.C_TooFew]) (fun C h => by rw [List.mem_singleton.mp h]; exact ⟨T.xf_TooFew, T.no_TooFew_lot⟩) (pel_var (i := 1))))))), ?_⟩
  intro S x
  have hx := T.xm_TooFew
  refine body_rt (seq_nx (set_ok rfl) (seq_nx (trya_ok (C := T.C_TooFew) (fs := [("lot", x)]) rfl hx (set_ok rfl)) (ret_ok (flde_ok rfl (by simp) rfl))))
end
end K08
namespace K08
open PySem PySem.Spec PyProof.Rows L2 MP
/-! ### things and their texts -/
def Thg (d : D) : Prop := ∃ p, toPE d = some p ∧ p.showable = true ∧ p.shown.length ≤ 3000 ∧ p.depth ≤ 5
theorem andv_tt {la lb : LE} {ρ : Ev} {S S1 : Sto} {d : D} {r : R D} (h : la ρ S = .ok d S1) (ht : truth S1 d = some true) (h2 : lb ρ S1 = r) : lAndV la lb ρ S = r := by
  unfold lAndV; rw [h, bind_ok, ht]; exact h2
theorem asg_ok {g : GT} {l : LE} {ρ ρ1 : Ev} {S S1 : Sto} {d : D} (h : l ρ S = .ok d S1) (hg : g d ρ = some ρ1) : lAsg g l ρ S = .ok (.nx ρ1) S1 := by
  unfold lAsg; rw [h]
  show (match g d ρ with | some ρ1 => R.ok (Fl.nx ρ1) S1 | none => .bad) = _
  rw [hg]
theorem Thg.rep {d : D} (h : Thg d) : ∃ t, ∀ S, gReprD S [d] = some (.str t) := by
  obtain ⟨p, h1, h2, h3, h4⟩ := h
  refine ⟨p.shown, fun S => ?_⟩
  unfold gReprD
  dsimp only
  rw [h1]
  exact if_pos ⟨h2, by rw [sizeLine_eq]; omega, by omega⟩
theorem thg4 {a b : D} (ha : Thg a) (hb : Thg b) : ∃ t, ∀ S, gReprD S [.lst [a, b, b, a]] = some (.str t) := by
  obtain ⟨p, h1, h2, h3, h4⟩ := ha
  obtain ⟨q, g1, g2, g3, g4⟩ := hb
  refine ⟨(PyData.list [p, q, q, p]).shown, fun S => ?_⟩
  have e : toPE (.lst [a, b, b, a]) = some (.list [p, q, q, p]) := by simp [toPE, toPEs, h1, g1]
  unfold gReprD
  dsimp only
  rw [e]
  refine if_pos ⟨by simp [PyData.showable, PyData.showableAll, h2, g2], ?_, ?_⟩
  · simp only [PyData.shown, PyData.shownAll]
    have := listText_len_le [p.shown, q.shown, q.shown, p.shown]
    simp only [List.map_cons, List.map_nil, List.sum_cons, List.sum_nil, List.length_cons, List.length_nil] at this
    rw [sizeLine_eq]
    omega
  · simp only [PyData.depth, PyData.depthAll]
    omega
theorem rep13 : ∀ k : Int, 0 ≤ k → k < 13 → Thg (.str (strRep "a" k)) ∧ (strRep "a" k).length ≤ 1000 := by
  intro k h0 h1
  have hk : k = 0 ∨ k = 1 ∨ k = 2 ∨ k = 3 ∨ k = 4 ∨ k = 5 ∨ k = 6 ∨ k = 7 ∨ k = 8 ∨ k = 9 ∨ k = 10 ∨ k = 11 ∨ k = 12 := by omega
  rcases hk with h | h | h | h | h | h | h | h | h | h | h | h | h <;> subst h <;> exact ⟨⟨_, rfl, rfl, by decide +kernel, by decide +kernel⟩, by decide +kernel⟩
theorem thg_int {v : Int} (h : Sm v) : Thg (.int v) := ⟨_, rfl, decide_eq_true (by have := h.lg; omega), by
  have := int_text_len_1921 (i := v) (by have := h.lg; omega)
  show (Str.ofString (toString v)).length ≤ 3000
  omega, by simp [PyData.depth]⟩
theorem thg_ix {v : Int} (h : Sm v) : Thg (.tup [.int v, .str "x"]) := ⟨.tuple [.int v, .str "x"], rfl, by simp [PyData.showable, PyData.showableAll]; have := h.lg; omega, by
  have a := int_text_len_1921 (i := v) (by have := h.lg; omega)
  have b : (reprText "x").length ≤ 10 := by decide +kernel
  have := tupleText_len_le [Str.ofString (toString v), reprText "x"]
  simp only [List.map_cons, List.map_nil, List.sum_cons, List.sum_nil, List.length_cons, List.length_nil] at this
  show (tupleText [Str.ofString (toString v), reprText "x"]).length ≤ 3000
  omega, by simp [PyData.depth, PyData.depthAll]⟩
def thl (v : Int) : List D := [.non, .bl true, .int v, .str "", .str (strRep "a" (v % 13)), .tup [], .tup [.str "a", .str "b"], .tup [.int v, .str "x"], .lst [.str "a"], .dct false [], .str "abc", .tup [.tup [.str "a", .str "b"]]]
theorem thl_ok {v : Int} (h : Sm v) : ∀ y ∈ thl v, Thg y := by
  intro y hy
  have c : ∀ d : D, (∃ p, toPE d = some p ∧ p.showable = true ∧ p.shown.length ≤ 3000 ∧ p.depth ≤ 5) → Thg d := fun d h => h
  simp only [thl, List.mem_cons, List.not_mem_nil, or_false] at hy
  rcases hy with e | e | e | e | e | e | e | e | e | e | e | e <;> subst e
  · exact ⟨.none, rfl, rfl, by decide +kernel, by decide +kernel⟩
  · exact ⟨.bool true, rfl, rfl, by decide +kernel, by decide +kernel⟩
  · exact thg_int h
  · exact ⟨.str "", rfl, rfl, by decide +kernel, by decide +kernel⟩
  · exact (rep13 _ (Int.emod_nonneg v (by decide)) (Int.emod_lt_of_pos v (by decide))).1
  · exact ⟨.tuple [], rfl, rfl, by decide +kernel, by decide +kernel⟩
  · exact ⟨.tuple [.str "a", .str "b"], rfl, rfl, by decide +kernel, by decide +kernel⟩
  · exact thg_ix h
  · exact ⟨.list [.str "a"], rfl, rfl, by decide +kernel, by decide +kernel⟩
  · exact ⟨.dict [], rfl, rfl, by decide +kernel, by decide +kernel⟩
  · exact ⟨.str "abc", rfl, rfl, by decide +kernel, by decide +kernel⟩
  · exact ⟨.tuple [.tuple [.str "a", .str "b"]], rfl, rfl, by decide +kernel, by decide +kernel⟩
def SThings (g : F) : Prop := ∀ (n : Int) (S : Sto) (d : D), Pot n S d → n < 10 ^ 28 → ∃ y S', g [d] S = .ok y S' ∧ Thg y ∧ Pot (n + 1 + 1) S' d
def SRight (g : F) : Prop := ∀ (S : Sto) (k : Nat) (x y : D), k < 7 → Thg x → Thg y → g [.int (k : Int), x, y] S = .ok (.bl true) S
def SLaw (g : F) : Prop := ∀ (ns : List Int), ns.length ≤ 63 → ∃ S', g [.lst (ns.map D.int)] [] = .ok (.bl true) S'
theorem ne_str {S : Sto} {t : Str} : gNe S (.str t) (.str t) = some (.bl false) := by rw [ne_ss, decide_eq_true rfl]; rfl
theorem eq_str {S : Sto} {t : Str} : gEq S (.str t) (.str t) = some (.bl true) := by rw [eq_ss, decide_eq_true rfl]
theorem flags_ne {S : Sto} : ∀ k, k < 11 → gNe S (.lst (flags k)) (.lst (flags k)) = some (.bl false) := lt11 ⟨rfl, rfl, rfl, rfl, rfl, rfl, rfl, rfl, rfl, rfl, rfl⟩
def fk (k : Nat) : D → D
  | .int i => .bl (decide (i = (k : Int)))
  | _ => .non
def r11 : List D := (List.range (11 : Int).toNat).map fun (i : Nat) => D.int (i : Int)
theorem flags_eq : ∀ k, k < 11 → r11.map (fk k) = flags k := lt11 ⟨rfl, rfl, rfl, rfl, rfl, rfl, rfl, rfl, rfl, rfl, rfl⟩
theorem range11 {ρ : Ev} {S : Sto} : lRange1 (aCons (lC (D.int 11)) aNil) ρ S = .ok ⟨r11, fun _ => True⟩ S := by
  have h : aCons (lC (D.int 11)) aNil ρ S = .ok [.int 11] S := acons_ok rfl rfl
  unfold lRange1
  rw [h, bind_ok]
  show (if -(2 ^ 62) ≤ (11 : Int) ∧ (11 : Int) < 2 ^ 62 then _ else _) = _
  rw [if_pos ⟨by omega, by omega⟩]
  rfl
theorem r11_mem {d : D} (h : d ∈ r11) : ∃ i : Nat, d = .int (i : Int) := by
  unfold r11 at h
  obtain ⟨i, _, e⟩ := List.mem_map.mp h
  exact ⟨i, e.symm⟩
section
variable {P : Program} {w : World} {K : PySem.W.Frag} {mg : Str → Option Value} {base : Heap}
theorem is_ok (T : T08 K mg) : ∀ k, k < 11 → ExcC K (clsOf T k) ∧ PySem.W.kitOne K (.ref (clsOf T k)) (.type "ValueError") = some true ∧ PySem.W.kitOne K (.ref (clsOf T k)) (.ref T.C_LotError) = some true :=
  lt11 ⟨⟨T.ec_NoMember, T.ko_NoMember_ValueError, T.ko_NoMember_LotError⟩, ⟨T.ec_NoDrawing, T.ko_NoDrawing_ValueError, T.ko_NoDrawing_LotError⟩, ⟨T.ec_TooFew, T.ko_TooFew_ValueError, T.ko_TooFew_LotError⟩, ⟨T.ec_NoNumber, T.ko_NoNumber_ValueError, T.ko_NoNumber_LotError⟩,
    ⟨T.ec_TooMany, T.ko_TooMany_ValueError, T.ko_TooMany_LotError⟩, ⟨T.ec_Twice, T.ko_Twice_ValueError, T.ko_Twice_LotError⟩, ⟨T.ec_NoText, T.ko_NoText_ValueError, T.ko_NoText_LotError⟩, ⟨T.ec_NoBar, T.ko_NoBar_ValueError, T.ko_NoBar_LotError⟩,
    ⟨T.ec_NoYear, T.ko_NoYear_ValueError, T.ko_NoYear_LotError⟩, ⟨T.ec_NoBack, T.ko_NoBack_ValueError, T.ko_NoBack_LotError⟩, ⟨T.ec_NoRow, T.ko_NoRow_ValueError, T.ko_NoRow_LotError⟩⟩
theorem exD_form (T : T08 K mg) (x : D) : ∀ k, k < 7 → ∃ fs, exD T x k = .exn (clsOf T k) fs := lt7 ⟨⟨_, rfl⟩, ⟨_, rfl⟩, ⟨_, rfl⟩, ⟨_, rfl⟩, ⟨_, rfl⟩, ⟨_, rfl⟩, ⟨_, rfl⟩⟩
theorem ok_things (T : T08 K mg) : ∃ g, FnL P w K mg base 4 T.f__law_things T.fd__law_things ["_law_pot_here"] g ∧ SThings g := by
  obtain ⟨gd, Fn__law_draw, Sd⟩ := ok_draw (P := P) (w := w) (base := base) T
  obtain ⟨gp, Fn__law_pick, Sp⟩ := ok_pick (P := P) (w := w) (base := base) T
  refine ⟨_, Fun.okL T.F__law_things sc__law_things fun cdv A outer s H E hr =>
(pssl_cons (psl_set (i := 1) sc__law_things.nd (pel_call Fn__law_draw (hr.mono (by decide)) rfl T.mg__law_draw T.F__law_draw.kp T.b__law_draw dfl_nil (pal_cons (pel_var (i := 0)) (pal_cons (pel_op opl_pow pel_int pel_int) pal_nil))))
  (pssl_cons (psl_set (i := 2) sc__law_things.nd (pel_lst (pal_cons pel_non (pal_cons pel_bl (pal_cons (pel_var (i := 1)) (pal_cons pel_str (pal_cons (pel_op opl_mulS pel_str (pel_op opl_mod (pel_var (i := 1)) pel_int)) (pal_cons (pel_tup pal_nil) (pal_cons (pel_tup (pal_cons pel_str (pal_cons pel_str pal_nil))) (pal_cons (pel_tup (pal_cons (pel_var (i := 1)) (pal_cons pel_str pal_nil))) (pal_cons (pel_lst (pal_cons pel_str pal_nil)) pal_nil)))))))))))
  (pssl_one (psl_ret (pel_call Fn__law_pick (hr.mono (by decide)) rfl T.mg__law_pick T.F__law_pick.kp T.b__law_pick dfl_nil (pal_cons (pel_var (i := 0)) (pal_cons (pel_op opl_add2 (pel_var (i := 2)) (pel_lst (pal_cons pel_dctK (pal_cons pel_str (pal_cons (pel_tup (pal_cons (pel_tup (pal_cons pel_str (pal_cons pel_str pal_nil))) pal_nil)) pal_nil))))) pal_nil))))))), ?_⟩
  intro n S d hp hn
  have b28 : (10 : Int) ^ 28 + 2 < 10 ^ 29 := by decide +kernel
  have b20 : (10 : Int) ^ (20 : Int).toNat = 10 ^ 20 := rfl
  have p20 : (0 : Int) < 10 ^ (20 : Int).toNat ∧ (10 : Int) ^ (20 : Int).toNat < 10 ^ 200 := by decide +kernel
  obtain ⟨v, S1, e1, v0, v1, hp1⟩ := Sd n S d (10 ^ (20 : Int).toNat) hp (by omega) p20.1 p20.2
  have sv : Sm v := Sm.of v0 v1 (by decide +kernel)
  obtain ⟨y, S2, hy, e2, hp2⟩ := Sp (n + 1) S1 d (thl v) hp1 (by omega) (by simp [thl]) (by simp [thl])
  have r13 := rep13 (v % 13) (Int.emod_nonneg v (by decide)) (Int.emod_lt_of_pos v (by decide))
  have hm : gMulS S1 (.str "a") (.int (v % 13)) = some (.str (strRep "a" (v % 13))) := by
    show (if 0 ≤ v % 13 ∧ v % 13 ≤ 1000 ∧ ("a" : Str).length ≤ 1000 ∧ (strRep "a" (v % 13)).length ≤ sizeLine then some (D.str (strRep "a" (v % 13))) else none) = _
    have q0 := Int.emod_nonneg v (b := 13) (by decide)
    have q1 := Int.emod_lt_of_pos v (b := 13) (by decide)
    rw [if_pos ⟨q0, by omega, by decide +kernel, Nat.le_trans r13.2 (by decide)⟩]
  refine ⟨y, S2, body_rt (seq_nx (set_ok (call_ok (acons_ok rfl (acons_ok (bin_ok rfl rfl (pow_ii ⟨by decide, by decide, by decide⟩)) rfl)) rfl e1))
    (seq_nx (set_ok (lst_ok (acons_ok rfl (acons_ok rfl (acons_ok rfl (acons_ok rfl (acons_ok (bin_ok rfl (bin_ok rfl rfl (mod_ii (by decide))) hm) (acons_ok (tup_ok rfl (by simp)) (acons_ok (tup_ok (acons_ok rfl (acons_ok rfl rfl)) (by simp)) (acons_ok (tup_ok (acons_ok rfl (acons_ok rfl rfl)) (by simp)) (acons_ok (lst_ok (acons_ok rfl rfl) (by simp)) rfl))))))))) (by simp)))
      (ret_ok (call_ok (acons_ok rfl (acons_ok (bin_ok rfl (lst_ok (acons_ok rfl (acons_ok rfl (acons_ok (tup_ok (acons_ok (tup_ok (acons_ok rfl (acons_ok rfl rfl)) (by simp)) rfl) (by simp)) rfl))) (by simp)) (catL rfl rfl (c := thl v) rfl (by simp [thl]))) rfl)) rfl e2)))), thl_ok sv y hy, hp2⟩
theorem ok_right (T : T08 K mg) : ∃ g, FnL P w K mg base 4 T.f__law_right T.fd__law_right ["_law_way", "_law_one", "_law_other"] g ∧ SRight g := by
  obtain ⟨gm, Fn__law_made, Sm'⟩ := ok_made (P := P) (w := w) (base := base) T
  obtain ⟨gk, Fn__law_kept, Sk⟩ := ok_kept (P := P) (w := w) (base := base) T
  obtain ⟨gc, Fn__law_classes, Sc⟩ := ok_cls (P := P) (w := w) (base := base) T
  refine ⟨_, Fun.okL T.F__law_right sc__law_right fun cdv A outer s H E hr =>
(pssl_cons (psl_par (i := 3) (j := 4) rfl sc__law_right.nd (pal_cons (pel_call Fn__law_made (hr.mono (by decide)) rfl T.mg__law_made T.F__law_made.kp T.b__law_made dfl_nil (pal_cons (pel_var (i := 0)) (pal_cons (pel_var (i := 1)) (pal_cons pel_bl pal_nil)))) (pal_cons (pel_call Fn__law_made (hr.mono (by decide)) rfl T.mg__law_made T.F__law_made.kp T.b__law_made dfl_nil (pal_cons (pel_var (i := 0)) (pal_cons (pel_var (i := 2)) (pal_cons pel_bl pal_nil)))) pal_nil)))
  (pssl_cons (psl_if (PWL.pt (pwl_or (ptl_cmp (opl_ne hr.units) (pel_callB (cl_reprD hr.g hr.units) rfl T.n_repr (by decide +kernel) (pal_cons (pel_call Fn__law_kept (hr.mono (by decide)) rfl T.mg__law_kept T.F__law_kept.kp T.b__law_kept dfl_nil (pal_cons (pel_var (i := 0)) (pal_cons (pel_var (i := 3)) pal_nil))) pal_nil)) (pel_callB (cl_reprD hr.g hr.units) rfl T.n_repr (by decide +kernel) (pal_cons (pel_var (i := 1)) pal_nil))) (pwl_or1 (ptl_cmp (opl_ne hr.units) (pel_callB (cl_reprD hr.g hr.units) rfl T.n_repr (by decide +kernel) (pal_cons (pel_call Fn__law_kept (hr.mono (by decide)) rfl T.mg__law_kept T.F__law_kept.kp T.b__law_kept dfl_nil (pal_cons (pel_var (i := 0)) (pal_cons (pel_var (i := 4)) pal_nil))) pal_nil)) (pel_callB (cl_reprD hr.g hr.units) rfl T.n_repr (by decide +kernel) (pal_cons (pel_var (i := 2)) pal_nil)))))) (pssl_one (psl_ret pel_bl)) pssl_nil)
  (pssl_cons (psl_if (PWL.pt (pwl_or (ptl_cmp (opl_ne hr.units) (pel_call Fn__law_classes (hr.mono (by decide)) rfl T.mg__law_classes T.F__law_classes.kp T.b__law_classes dfl_nil (pal_cons (pel_var (i := 3)) pal_nil)) (pel_lc (own := [("_law_k", 5)]) rfl sc__law_right.nd (pil_range1 rfl T.n_range (pal_cons pel_int pal_nil)) (blkOk_by (N := N__law_right) (sc := defScope s__law_right) (by decide +kernel)) (fun _ _ _ _ _ => (pgl_name (i := 5) sc__law_right.nd)) (fun _ _ _ _ _ => ptsl_nil) (fun _ _ _ _ _ => (pel_cmp (opl_eq hr.units) (pel_var (i := 5)) (pel_var (i := 0)))))) (pwl_or1 (ptl_not (ptl_truth (pel_isE rfl T.n_isinstance (pel_var (i := 3)) (pe_bltn rfl T.n_ValueError (v := .ty "ValueError") (u := .type "ValueError") (by decide +kernel) rfl) (.ty _) (tabE_ok K _))))))) (pssl_one (psl_ret pel_bl)) pssl_nil)
  (pssl_one (psl_ret (pel_and (pel_isE rfl T.n_isinstance (pel_var (i := 3)) (pe_glob rfl T.mg_LotError (v := .ref T.C_LotError) rfl) (.own _) (tabE_ok K _)) (pel_one (pel_cmp (opl_eq hr.units) (pel_callB (cl_reprD hr.g hr.units) rfl T.n_repr (by decide +kernel) (pal_cons (pel_call Fn__law_kept (hr.mono (by decide)) rfl T.mg__law_kept T.F__law_kept.kp T.b__law_kept dfl_nil (pal_cons (pel_var (i := 0)) (pal_cons (pel_var (i := 3)) pal_nil))) pal_nil)) (pel_callB (cl_reprD hr.g hr.units) rfl T.n_repr (by decide +kernel) (pal_cons (pel_var (i := 1)) pal_nil)))))))))), ?_⟩
  intro S k x y hk tx ty
  obtain ⟨t, ht⟩ := tx.rep
  obtain ⟨u, hu⟩ := ty.rep
  have m1 := Sm' S k x false hk
  have m2 := Sm' S k y true hk
  have k1 := Sk S k x hk
  have k2 := Sk S k y hk
  obtain ⟨fs, e1⟩ := exD_form T x k hk
  obtain ⟨E, i1, i2⟩ := is_ok T k (by omega)
  have c1 := Sc S k fs (by omega)
  rw [← e1] at c1
  generalize exD T x k = d1 at m1 k1 c1 e1
  generalize exD T y k = d2 at m2 k2
  refine body_rt (seq_nx (par_ok (acons_ok (call_ok (acons_ok rfl (acons_ok rfl (acons_ok rfl rfl))) rfl m1) (acons_ok (call_ok (acons_ok rfl (acons_ok rfl (acons_ok rfl rfl))) rfl m2) rfl))) ?_)
  have rk1 : ∀ ρ : Ev, ρ[0]? = some (some (.int (k : Int))) → ρ[3]? = some (some d1) → lCallB gReprD (aCons (lCall 2 gk [] (aCons (lVar 0) (aCons (lVar 3) aNil))) aNil) ρ S = .ok (.str t) S := fun ρ h0 h3 => callb_ok (acons_ok (call_ok (acons_ok (by unfold lVar; rw [h0]) (acons_ok (by unfold lVar; rw [h3]) rfl)) rfl k1) rfl) (ht S)
  refine seq_nx (if_ff (or_ff (tru_b (bin_ok (rk1 _ rfl rfl) (callb_ok (acons_ok rfl rfl) (ht S)) ne_str) rfl) (tru_b (bin_ok (callb_ok (acons_ok (call_ok (acons_ok rfl (acons_ok rfl rfl)) rfl k2) rfl) (hu S)) (callb_ok (acons_ok rfl rfl) (hu S)) ne_str) rfl)) rfl) ?_
  have hc : ∀ ρ : Ev, ρ = [some (.int (k : Int)), some x, some y, some d1, some d2, none] → lComp (lRange1 (aCons (lC (.int 11)) aNil)) [5] (gtName 5) tYesL (lBin gEq (lVar 5) (lVar 0)) ρ S = .ok (.lst (flags k)) S := by
    intro ρ e
    subst e
    rw [← flags_eq k (by omega)]
    refine comp_ok range11 (by decide) (comp_all (f := fk k) trivial r11 fun d hd => ?_)
    obtain ⟨i, rfl⟩ := r11_mem hd
    exact ⟨_, rfl, bin_ok rfl rfl eq_ii⟩
  refine seq_nx (if_ff (or_ff (tru_b (bin_ok (call_ok (acons_ok rfl rfl) rfl c1) (hc _ rfl) (flags_ne k (by omega))) rfl) (not_ok (tru_b (b' := true) (ise_ok E i1 (by rw [e1]; rfl)) rfl))) rfl) ?_
  exact ret_ok (andv_tt (d := .bl true) (ise_ok E i2 (by rw [e1]; rfl)) rfl (bin_ok (rk1 _ rfl rfl) (callb_ok (acons_ok rfl rfl) (ht S)) eq_str))
theorem ok_law (T : T08 K mg) : ∃ g, FnL P w K mg base 5 T.f_law T.fd_law ["_law_script"] g ∧ SLaw g := by
  obtain ⟨gp, Fn__law_pot, Sp⟩ := ok_pot (P := P) (w := w) (base := base) T
  obtain ⟨gt, Fn__law_things, St⟩ := ok_things (P := P) (w := w) (base := base) T
  obtain ⟨gr, Fn__law_right, Sr⟩ := ok_right (P := P) (w := w) (base := base) T
  obtain ⟨ga, Fn__law_raised, Sra⟩ := ok_raised (P := P) (w := w) (base := base) T
  obtain ⟨gc, Fn__law_classes, Sc⟩ := ok_cls (P := P) (w := w) (base := base) T
  have FnE_NoBar := fe_NoBar (P := P) (w := w) (base := base) T
  refine ⟨_, Fun.okL T.F_law sc_law fun cdv A outer s H E hr =>
(pssl_cons (psl_set (i := 1) sc_law.nd (pel_call Fn__law_pot (hr.mono (by decide)) rfl T.mg__law_pot T.F__law_pot.kp T.b__law_pot dfl_nil (pal_cons (pel_var (i := 0)) pal_nil)))
  (pssl_cons (psl_asg (pel_tup (pal_cons (pel_call Fn__law_things (hr.mono (by decide)) rfl T.mg__law_things T.F__law_things.kp T.b__law_things dfl_nil (pal_cons (pel_var (i := 1)) pal_nil)) (pal_cons (pel_call Fn__law_things (hr.mono (by decide)) rfl T.mg__law_things T.F__law_things.kp T.b__law_things dfl_nil (pal_cons (pel_var (i := 1)) pal_nil)) pal_nil))) (pgl_tup (n := 2) rfl (pgsl_cons (pgl_name (i := 2) sc_law.nd) (pgsl_cons (pgl_name (i := 3) sc_law.nd) pgsl_nil))))
  (pssl_cons (psl_if (PWL.pt (pwl_or (ptl_not (ptl_truth (pel_callB (cl_all rfl) rfl T.n_all (by decide +kernel) (pal_cons (pel_lc (own := [("_law_way", 4)]) rfl sc_law.nd (pil_range1 rfl T.n_range (pal_cons pel_int pal_nil)) (blkOk_by (N := N_law) (sc := defScope s_law) (by decide +kernel)) (fun _ _ _ _ _ => (pgl_name (i := 4) sc_law.nd)) (fun _ _ _ _ _ => ptsl_nil) (fun _ _ _ _ _ => (pel_call Fn__law_right (hr.mono (by decide)) rfl T.mg__law_right T.F__law_right.kp T.b__law_right dfl_nil (pal_cons (pel_var (i := 4)) (pal_cons (pel_var (i := 2)) (pal_cons (pel_var (i := 3)) pal_nil)))))) pal_nil)))) (pwl_or1 (ptl_cmp (opl_ne hr.units) (pel_callB (cl_reprD hr.g hr.units) rfl T.n_repr (by decide +kernel) (pal_cons (pel_call Fn__law_raised (hr.mono (by decide)) rfl T.mg__law_raised T.F__law_raised.kp T.b__law_raised dfl_nil (pal_cons (pel_var (i := 2)) pal_nil)) pal_nil)) (pel_callB (cl_reprD hr.g hr.units) rfl T.n_repr (by decide +kernel) (pal_cons (pel_var (i := 2)) pal_nil)))))) (pssl_one (psl_ret pel_bl)) pssl_nil)
  (pssl_cons (psl_par (i := 5) (j := 6) rfl sc_law.nd (pal_cons (pel_makeE T.mkE_NoBar FnE_NoBar (hr.mono (by decide)) rfl T.mg_NoBar T.b_NoBar___init__ (pal_cons (pel_var (i := 2)) (pal_cons (pel_var (i := 3)) pal_nil))) (pal_cons (pel_makeEk (pk := [1, 0]) T.mkE_NoBar FnE_NoBar (hr.mono (by decide)) rfl T.mg_NoBar T.kw_NoBar_taker_giver (pkl_cons (pel_var (i := 2)) (pkl_cons (pel_var (i := 3)) pkl_nil))) pal_nil)))
  (pssl_cons (psl_if (ptl_cmp (opl_ne hr.units) (pel_callB (cl_reprD hr.g hr.units) rfl T.n_repr (by decide +kernel) (pal_cons (pel_lst (pal_cons (pel_fldE (Cs := [T.C_NoBar]) (fun C h => by rw [List.mem_singleton.mp h]; exact ⟨T.xf_NoBar, T.no_NoBar_giver⟩) (pel_var (i := 5))) (pal_cons (pel_fldE (Cs := [T.C_NoBar]) (fun C h => by rw [List.mem_singleton.mp h]; exact ⟨T.xf_NoBar, T.no_NoBar_taker⟩) (pel_var (i := 5))) (pal_cons (pel_fldE (Cs := [T.C_NoBar]) (fun C h => by rw [List.mem_singleton.mp h]; exact ⟨T.xf_NoBar, T.no_NoBar_giver⟩) (pel_var (i := 6))) (pal_cons (pel_fldE (Cs := [T.C_NoBar]) (fun C h => by rw [List.mem_singleton.mp h]; exact ⟨T.xf_NoBar, T.no_NoBar_taker⟩) (pel_var (i := 6))) pal_nil))))) pal_nil)) (pel_callB (cl_reprD hr.g hr.units) rfl T.n_repr (by decide +kernel) (pal_cons (pel_lst (pal_cons (pel_var (i := 2)) (pal_cons (pel_var (i := 3)) (pal_cons (pel_var (i := 3)) (pal_cons (pel_var (i := 2)) pal_nil))))) pal_nil))) (pssl_one (psl_ret pel_bl)) pssl_nil)
  (pssl_cons (psl_for (passes_of rfl) rfl (pil_val (pel_tup (pal_cons (pel_tup (pal_cons pel_int (pal_cons (pel_var (i := 5)) pal_nil))) (pal_cons (pel_tup (pal_cons pel_int (pal_cons (pel_exc1 PySem.F.excBase_ValueError T.xi_NoYear T.mg_NoYear T.kc_NoYear rfl pel_str) pal_nil))) (pal_cons (pel_tup (pal_cons pel_int (pal_cons (pel_exc1 PySem.F.excBase_ValueError T.xi_NoBack T.mg_NoBack T.kc_NoBack rfl pel_str) pal_nil))) (pal_cons (pel_tup (pal_cons pel_int (pal_cons (pel_exc1 PySem.F.excBase_ValueError T.xi_NoRow T.mg_NoRow T.kc_NoRow rfl pel_str) pal_nil))) pal_nil)))))) (pgl_tup (n := 2) rfl (pgsl_cons (pgl_name (i := 4) sc_law.nd) (pgsl_cons (pgl_name (i := 7) sc_law.nd) pgsl_nil))) (pssl_cons (psl_if (ptl_cmp (opl_ne hr.units) (pel_call Fn__law_classes (hr.mono (by decide)) rfl T.mg__law_classes T.F__law_classes.kp T.b__law_classes dfl_nil (pal_cons (pel_var (i := 7)) pal_nil)) (pel_lc (own := [("_law_k", 8)]) rfl sc_law.nd (pil_range1 rfl T.n_range (pal_cons pel_int pal_nil)) (blkOk_by (N := N_law) (sc := defScope s_law) (by decide +kernel)) (fun _ _ _ _ _ => (pgl_name (i := 8) sc_law.nd)) (fun _ _ _ _ _ => ptsl_nil) (fun _ _ _ _ _ => (pel_cmp (opl_eq hr.units) (pel_var (i := 8)) (pel_var (i := 4)))))) (pssl_one (psl_ret pel_bl)) pssl_nil)
  (pssl_one (psl_if (PWL.pt (pwl_or (ptl_not (ptl_truth (pel_isE rfl T.n_isinstance (pel_var (i := 7)) (pe_glob rfl T.mg_LotError (v := .ref T.C_LotError) rfl) (.own _) (tabE_ok K _)))) (pwl_or1 (ptl_not (ptl_truth (pel_isE rfl T.n_isinstance (pel_var (i := 7)) (pe_bltn rfl T.n_ValueError (v := .ty "ValueError") (u := .type "ValueError") (by decide +kernel) rfl) (.ty _) (tabE_ok K _))))))) (pssl_one (psl_ret pel_bl)) pssl_nil))))
  (pssl_one (psl_ret pel_bl)))))))), ?_⟩
  intro ns hn
  obtain ⟨pot, S1, e1, hp1⟩ := Sp [] ns hn
  obtain ⟨x, S2, e2, tx, hp2⟩ := St 0 S1 pot hp1 (by decide +kernel)
  obtain ⟨y, S3, e3, ty, hp3⟩ := St (0 + 1 + 1) S2 pot hp2 (by decide +kernel)
  obtain ⟨t, ht⟩ := tx.rep
  obtain ⟨u, hu⟩ := thg4 tx ty
  refine ⟨S3, body_rt (seq_nx (set_ok (call_ok (acons_ok rfl rfl) rfl e1)) (seq_nx (asg_ok (tup_ok (acons_ok (call_ok (acons_ok rfl rfl) rfl e2) (acons_ok (call_ok (acons_ok rfl rfl) rfl e3) rfl)) (by simp)) rfl) ?_))⟩
  -- each way
  have hr7 : ∀ ρ S, lRange1 (aCons (lC (D.int 7)) aNil) ρ S = .ok ⟨(List.range 7).map fun (i : Nat) => D.int (i : Int), fun _ => True⟩ S := fun ρ S => by
    have h : aCons (lC (D.int 7)) aNil ρ S = .ok [.int 7] S := acons_ok rfl rfl
    unfold lRange1
    rw [h, bind_ok]
    show (if -(2 ^ 62) ≤ (7 : Int) ∧ (7 : Int) < 2 ^ 62 then _ else _) = _
    rw [if_pos ⟨by omega, by omega⟩]
    rfl
  refine seq_nx (if_ff (or_ff (not_ok (tru_b (b' := true) (callb_ok (acons_ok (comp_ok (hr7 _ _) (by decide) (comp_all (f := fun _ => .bl true) trivial _ fun d hd => ?_)) rfl) (all_true _)) rfl)) (tru_b (bin_ok (callb_ok (acons_ok (call_ok (acons_ok rfl rfl) rfl (Sra S3 x)) rfl) (ht S3)) (callb_ok (acons_ok rfl rfl) (ht S3)) ne_str) rfl)) rfl) ?_
  · obtain ⟨i, hi, e⟩ := List.mem_map.mp hd
    subst e
    exact ⟨_, rfl, call_ok (acons_ok rfl (acons_ok rfl (acons_ok rfl rfl))) rfl (Sr S3 i x y (List.mem_range.mp hi) tx ty)⟩
  -- two values
  refine seq_nx (par_ok (acons_ok (mke_ok (acons_ok rfl (acons_ok rfl rfl)) rfl) (acons_ok (mkek_ok (acons_ok rfl (acons_ok rfl rfl)) rfl rfl) rfl))) ?_
  refine seq_nx (if_ff (tru_b (bin_ok (callb_ok (acons_ok (lst_ok (acons_ok (flde_ok rfl (by simp) rfl) (acons_ok (flde_ok rfl (by simp) rfl) (acons_ok (flde_ok rfl (by simp) rfl) (acons_ok (flde_ok rfl (by simp) rfl) rfl)))) (by simp)) rfl) (hu S3)) (callb_ok (acons_ok (lst_ok (acons_ok rfl (acons_ok rfl (acons_ok rfl (acons_ok rfl rfl)))) (by simp)) rfl) (hu S3)) ne_str) rfl) rfl) ?_
  -- the four others
  refine seq_nx (for_ok (iter_ok (tup_ok (acons_ok (tup_ok (acons_ok rfl (acons_ok rfl rfl)) (by simp)) (acons_ok (tup_ok (acons_ok rfl (acons_ok rfl rfl)) (by simp)) (acons_ok (tup_ok (acons_ok rfl (acons_ok rfl rfl)) (by simp)) (acons_ok (tup_ok (acons_ok rfl (acons_ok rfl rfl)) (by simp)) rfl)))) (by simp)) rfl) (for_const trivial _ fun d hd => ?_)) (ret_ok rfl)
  have hf : ∃ (k : Nat) (fs : List (Str × D)), k < 11 ∧ d = .tup [.int (k : Int), .exn (clsOf T k) fs] := by
    simp only [List.mem_cons, List.not_mem_nil, or_false] at hd
    rcases hd with h | h | h | h
    · exact ⟨7, _, by decide, h⟩
    · exact ⟨8, _, by decide, h⟩
    · exact ⟨9, _, by decide, h⟩
    · exact ⟨10, _, by decide, h⟩
  obtain ⟨k, fs, hk, rfl⟩ := hf
  obtain ⟨E, i1, i2⟩ := is_ok T k hk
  have c1 := Sc S3 k fs hk
  have hc : ∀ (ρ : Ev) (b : Option D), ρ = [some (.lst (ns.map D.int)), some pot, some x, some y, some (.int (k : Int)), some (.exn T.C_NoBar [("taker", y), ("giver", x)]), some (.exn T.C_NoBar [("taker", x), ("giver", y)]), some (.exn (clsOf T k) fs), b] → lComp (lRange1 (aCons (lC (.int 11)) aNil)) [8] (gtName 8) tYesL (lBin gEq (lVar 8) (lVar 4)) ρ S3 = .ok (.lst (flags k)) S3 := by
    intro ρ b e
    subst e
    rw [← flags_eq k hk]
    refine comp_ok range11 (by decide) (comp_all (f := fk k) trivial r11 fun d hd => ?_)
    obtain ⟨i, rfl⟩ := r11_mem hd
    exact ⟨_, rfl, bin_ok rfl rfl eq_ii⟩
  exact ⟨_, _, rfl, seq_nx (if_ff (tru_b (bin_ok (call_ok (acons_ok rfl rfl) rfl c1) (hc _ _ rfl) (flags_ne k hk)) rfl) rfl) (if_ff (or_ff (not_ok (tru_b (b' := true) (ise_ok E i2 rfl) rfl)) (not_ok (tru_b (b' := true) (ise_ok E i1 rfl) rfl))) rfl), rfl⟩
end
end K08

namespace K08
open PySem PySem.Spec PyProof.Rows L2 MP
def spLaw (K : PySem.W.Frag) : Sp := fun vs H Q _ => ∃ (a : Addr) (ns : List Int), vs = [.ref a] ∧ SqL K H a (ns.map V.int) ∧ ns.length ≤ 63 ∧ ∀ H', Q (.bl true) H'
theorem sr_nil {K : PySem.W.Frag} {H : Hp} : SR K [] H [] := ⟨List.nodup_nil, rfl, fun i a o h => by simp at h⟩
theorem vr_script {K : PySem.W.Frag} {H : Hp} {a : Addr} {ns : List Int} (h : SqL K H a (ns.map V.int)) : VR K [] H (.ref a) (.lst (ns.map D.int)) := by
  rcases h with h | ⟨o, its, n, hk, h1, h2, h3, h4, h5⟩
  · exact .lst (by simp) h VRs.of_ints
  · exact .lstK hk h1 h2 h3 h4 h5 VRs.of_ints
section
variable {P : Program} {w : World} {K : PySem.W.Frag} {mg : Str → Option Value} {base : Heap}
theorem law_fn (T : T08 K mg) : MP.FnOk P w K mg base (L2.CX P w) 5 T.f_law T.fd_law ["_law_script"] (spLaw K) := by
  obtain ⟨g, Fn, Sl⟩ := ok_law (P := P) (w := w) (base := base) T
  refine MP.FnOk.imp Fn fun vs H Q E ⟨a, ns, e, hS, hl, k⟩ => ?_
  subst e
  obtain ⟨S', q⟩ := Sl ns hl
  have key : spL K g 1 [.ref a] H Q E := by
    refine ⟨rfl, [], [], [.lst (ns.map D.int)], sr_nil, .cons (vr_script hS) .nil, ?_, ?_, ?_⟩
    · rw [q]; intro z; cases z
    · intro d S2 q2 v H' z
      rw [q] at q2
      cases q2
      obtain ⟨m', e, x, w⟩ := z
      cases w
      exact k H'
    · intro C fs S2 q2
      rw [q] at q2
      cases q2
  exact key
theorem all_ {l : PySem.W.OpenLaw} {w : World} {K : PySem.W.Frag} {mg : Str → Option Value} {fa : Addr} (hfa : mg "law" = some (.ref fa)) (T : T08 K mg) :
    ∃ fd : FuncData, (∀ (s : Shared) (u : Value), BindsTo s fd ⟨[u], []⟩ [("_law_script", u)]) ∧ ∀ base : Heap, K.In base → base.Ns mainGlobals mg → MP.FnOk l.prog w K mg base (L2.CX l.prog w) 5 fa fd ["_law_script"] (spLaw K) := by
  have e := hfa.symm.trans T.mg_law
  cases e
  refine ⟨T.fd_law, fun s u => ?_, fun base _ _ => law_fn T⟩
  obtain ⟨oc, od, kV, doc, pm, an, cdv, ct, osl, e, lk, hcd⟩ := T.F_law.ex
  rw [e]
  exact .of_eq rfl
end
theorem walk {l : PySem.W.OpenLaw} {q : Program} {loose : List Str} {XP : (Str → Option Value) → Heap → Prop} {YP : World → Heap → Prop} {d : DefRec} {K : Params → PySem.W.Frag} (hn : l.most = some 63) (hdf : d.params.defaults = [])
    (hY : ∀ (w : World) (h : Heap), YP w h → (K w.params).In h)
    (F : ∀ (w : World) (mg : Str → Option Value) (fa : Addr) (h : Heap), (K w.params).In h → h.Ns mainGlobals mg → mg d.name = some (.ref fa) →
      ∃ fd : FuncData, (∀ (s : Shared) (u : Value), BindsTo s fd ⟨[u], []⟩ [("_law_script", u)]) ∧ ∀ base : Heap, (K w.params).In base → base.Ns mainGlobals mg → MP.FnOk l.prog w (K w.params) mg base (L2.CX l.prog w) 5 fa fd ["_law_script"] (spLaw (K w.params))) :
    PySem.W.WalkO q loose XP YP l.row.toRowW d [] (fun f vs => PySem.call f vs) :=
  MP.walk_ofG (n := 63) (k := 5) (x := "_law_script") (CX := fun w => L2.CX l.prog w) (sp := fun w => spLaw (K w.params)) hn (by decide) hdf (room_caller ⟨rfl, by decide, by decide⟩) hY F (fun _ _ a ns hl _ _ hS => ⟨a, ns, rfl, hS, hl, fun _ => rfl⟩) fun _ _ _ _ _ z => by
    obtain ⟨_, _, _, _, _, _, _, _, _, _, _, _, hE⟩ := z
    exact hE
end K08
open PySem PySem.W PyProof.Rows
set_option maxRecDepth 100000 in
set_option maxHeartbeats 0 in
theorem PySem.Challenge.cw_lotgivers_k08_refusals_made_holds : PySem.Challenge.rw_lotgivers_k08_refusals_made.Holds := by
  w_on; o_law; k_head; (case hw => w_witness2)
  k_fill
  refine K08.walk (l := PySem.Challenge.rw_lotgivers_k08_refusals_made) rfl rfl (fun w h Y => PySem.W.kIn_of Y) ?F
  case F =>
    intro w mg fa h KX G hmg
    refine' K08.all_ hmg (K08.T08_mk KX G ?aC_NoMember ?aC_NoDrawing ?aC_TooFew ?aC_NoNumber ?aC_TooMany ?aC_Twice ?aC_NoText ?aC_NoBar ?aC_NoYear ?aC_NoBack ?aC_NoRow ?aC_LotError ?hn_ ?ht_ ?a_NoMember___init__ ?l_NoMember___init__ ?c_NoMember___init__ ?k_NoMember___init__ ?a_NoDrawing___init__ ?l_NoDrawing___init__ ?c_NoDrawing___init__ ?k_NoDrawing___init__ ?a_TooFew___init__ ?l_TooFew___init__ ?c_TooFew___init__ ?k_TooFew___init__ ?a_NoNumber___init__ ?l_NoNumber___init__ ?c_NoNumber___init__ ?k_NoNumber___init__ ?a_TooMany___init__ ?l_TooMany___init__ ?c_TooMany___init__ ?k_TooMany___init__ ?a_Twice___init__ ?l_Twice___init__ ?c_Twice___init__ ?k_Twice___init__ ?a_NoText___init__ ?l_NoText___init__ ?c_NoText___init__ ?k_NoText___init__ ?a_NoBar___init__ ?l_NoBar___init__ ?c_NoBar___init__ ?k_NoBar___init__ ?a__law_blend ?l__law_blend ?c__law_blend ?k__law_blend ?a__law_pot ?l__law_pot ?c__law_pot ?k__law_pot ?a__law_draw ?l__law_draw ?c__law_draw ?k__law_draw ?a__law_pick ?l__law_pick ?c__law_pick ?k__law_pick ?a__law_things ?l__law_things ?c__law_things ?k__law_things ?a__law_made ?l__law_made ?c__law_made ?k__law_made ?a__law_kept ?l__law_kept ?c__law_kept ?k__law_kept ?a__law_classes ?l__law_classes ?c__law_classes ?k__law_classes ?a__law_raised ?l__law_raised ?c__law_raised ?k__law_raised ?a__law_right ?l__law_right ?c__law_right ?k__law_right ?a_law ?l_law ?c_law ?k_law ?ga_NoMember ?gg_NoMember ?ex_NoMember ?hd_NoMember ?ty_NoMember ?kc_NoMember ?ha_NoMember ?hm_NoMember ?xL_NoMember ?sa_NoMember ?t_NoMember ?no_NoMember_name ?ga_NoDrawing ?gg_NoDrawing ?ex_NoDrawing ?hd_NoDrawing ?ty_NoDrawing ?kc_NoDrawing ?ha_NoDrawing ?hm_NoDrawing ?xL_NoDrawing ?sa_NoDrawing ?t_NoDrawing ?no_NoDrawing_thing ?ga_TooFew ?gg_TooFew ?ex_TooFew ?hd_TooFew ?ty_TooFew ?kc_TooFew ?ha_TooFew ?hm_TooFew ?xL_TooFew ?sa_TooFew ?t_TooFew ?no_TooFew_lot ?ga_NoNumber ?gg_NoNumber ?ex_NoNumber ?hd_NoNumber ?ty_NoNumber ?kc_NoNumber ?ha_NoNumber ?hm_NoNumber ?xL_NoNumber ?sa_NoNumber ?t_NoNumber ?no_NoNumber_number ?ga_TooMany ?gg_TooMany ?ex_TooMany ?hd_TooMany ?ty_TooMany ?kc_TooMany ?ha_TooMany ?hm_TooMany ?xL_TooMany ?sa_TooMany ?t_TooMany ?no_TooMany_many ?ga_Twice ?gg_Twice ?ex_Twice ?hd_Twice ?ty_Twice ?kc_Twice ?ha_Twice ?hm_Twice ?xL_Twice ?sa_Twice ?t_Twice ?no_Twice_name ?ga_NoText ?gg_NoText ?ex_NoText ?hd_NoText ?ty_NoText ?kc_NoText ?ha_NoText ?hm_NoText ?xL_NoText ?sa_NoText ?t_NoText ?no_NoText_row ?ga_NoBar ?gg_NoBar ?ex_NoBar ?hd_NoBar ?ty_NoBar ?kc_NoBar ?ha_NoBar ?hm_NoBar ?xL_NoBar ?sa_NoBar ?t_NoBar ?no_NoBar_giver ?no_NoBar_taker ?ga_NoYear ?gg_NoYear ?ex_NoYear ?hd_NoYear ?ty_NoYear ?kc_NoYear ?ha_NoYear ?hm_NoYear ?xi_NoYear ?ga_NoBack ?gg_NoBack ?ex_NoBack ?hd_NoBack ?ty_NoBack ?kc_NoBack ?ha_NoBack ?hm_NoBack ?xi_NoBack ?ga_NoRow ?gg_NoRow ?ex_NoRow ?hd_NoRow ?ty_NoRow ?kc_NoRow ?ha_NoRow ?hm_NoRow ?xi_NoRow ?ga_LotError ?gg_LotError ?ex_LotError ?hd_LotError ?ty_LotError ?kc_LotError ?ha_LotError ?hm_LotError ?li1 ?li2 ?li3 ?ko_NoMember_NoMember ?ko_NoMember_NoDrawing ?ko_NoMember_TooFew ?ko_NoMember_NoNumber ?ko_NoMember_TooMany ?ko_NoMember_Twice ?ko_NoMember_NoText ?ko_NoMember_NoBar ?ko_NoMember_NoYear ?ko_NoMember_NoBack ?ko_NoMember_NoRow ?ko_NoMember_LotError ?ko_NoMember_ValueError ?ko_NoDrawing_NoMember ?ko_NoDrawing_NoDrawing ?ko_NoDrawing_TooFew ?ko_NoDrawing_NoNumber ?ko_NoDrawing_TooMany ?ko_NoDrawing_Twice ?ko_NoDrawing_NoText ?ko_NoDrawing_NoBar ?ko_NoDrawing_NoYear ?ko_NoDrawing_NoBack ?ko_NoDrawing_NoRow ?ko_NoDrawing_LotError ?ko_NoDrawing_ValueError ?ko_TooFew_NoMember ?ko_TooFew_NoDrawing ?ko_TooFew_TooFew ?ko_TooFew_NoNumber ?ko_TooFew_TooMany ?ko_TooFew_Twice ?ko_TooFew_NoText ?ko_TooFew_NoBar ?ko_TooFew_NoYear ?ko_TooFew_NoBack ?ko_TooFew_NoRow ?ko_TooFew_LotError ?ko_TooFew_ValueError ?ko_NoNumber_NoMember ?ko_NoNumber_NoDrawing ?ko_NoNumber_TooFew ?ko_NoNumber_NoNumber ?ko_NoNumber_TooMany ?ko_NoNumber_Twice ?ko_NoNumber_NoText ?ko_NoNumber_NoBar ?ko_NoNumber_NoYear ?ko_NoNumber_NoBack ?ko_NoNumber_NoRow ?ko_NoNumber_LotError ?ko_NoNumber_ValueError ?ko_TooMany_NoMember ?ko_TooMany_NoDrawing ?ko_TooMany_TooFew ?ko_TooMany_NoNumber ?ko_TooMany_TooMany ?ko_TooMany_Twice ?ko_TooMany_NoText ?ko_TooMany_NoBar ?ko_TooMany_NoYear ?ko_TooMany_NoBack ?ko_TooMany_NoRow ?ko_TooMany_LotError ?ko_TooMany_ValueError ?ko_Twice_NoMember ?ko_Twice_NoDrawing ?ko_Twice_TooFew ?ko_Twice_NoNumber ?ko_Twice_TooMany ?ko_Twice_Twice ?ko_Twice_NoText ?ko_Twice_NoBar ?ko_Twice_NoYear ?ko_Twice_NoBack ?ko_Twice_NoRow ?ko_Twice_LotError ?ko_Twice_ValueError ?ko_NoText_NoMember ?ko_NoText_NoDrawing ?ko_NoText_TooFew ?ko_NoText_NoNumber ?ko_NoText_TooMany ?ko_NoText_Twice ?ko_NoText_NoText ?ko_NoText_NoBar ?ko_NoText_NoYear ?ko_NoText_NoBack ?ko_NoText_NoRow ?ko_NoText_LotError ?ko_NoText_ValueError ?ko_NoBar_NoMember ?ko_NoBar_NoDrawing ?ko_NoBar_TooFew ?ko_NoBar_NoNumber ?ko_NoBar_TooMany ?ko_NoBar_Twice ?ko_NoBar_NoText ?ko_NoBar_NoBar ?ko_NoBar_NoYear ?ko_NoBar_NoBack ?ko_NoBar_NoRow ?ko_NoBar_LotError ?ko_NoBar_ValueError ?ko_NoYear_NoMember ?ko_NoYear_NoDrawing ?ko_NoYear_TooFew ?ko_NoYear_NoNumber ?ko_NoYear_TooMany ?ko_NoYear_Twice ?ko_NoYear_NoText ?ko_NoYear_NoBar ?ko_NoYear_NoYear ?ko_NoYear_NoBack ?ko_NoYear_NoRow ?ko_NoYear_LotError ?ko_NoYear_ValueError ?ko_NoBack_NoMember ?ko_NoBack_NoDrawing ?ko_NoBack_TooFew ?ko_NoBack_NoNumber ?ko_NoBack_TooMany ?ko_NoBack_Twice ?ko_NoBack_NoText ?ko_NoBack_NoBar ?ko_NoBack_NoYear ?ko_NoBack_NoBack ?ko_NoBack_NoRow ?ko_NoBack_LotError ?ko_NoBack_ValueError ?ko_NoRow_NoMember ?ko_NoRow_NoDrawing ?ko_NoRow_TooFew ?ko_NoRow_NoNumber ?ko_NoRow_TooMany ?ko_NoRow_Twice ?ko_NoRow_NoText ?ko_NoRow_NoBar ?ko_NoRow_NoYear ?ko_NoRow_NoBack ?ko_NoRow_NoRow ?ko_NoRow_LotError ?ko_NoRow_ValueError ?su_NoMember ?su_NoDrawing ?su_TooFew ?su_NoNumber ?su_TooMany ?su_Twice ?su_NoText ?su_NoBar ?n_len ?n_abs ?n_all ?n_repr ?n_range ?n_isinstance ?n_list ?n_ValueError)
    (case aC_NoMember => k_is)
    (case aC_NoDrawing => k_is)
    (case aC_TooFew => k_is)
    (case aC_NoNumber => k_is)
    (case aC_TooMany => k_is)
    (case aC_Twice => k_is)
    (case aC_NoText => k_is)
    (case aC_NoBar => k_is)
    (case aC_NoYear => k_is)
    (case aC_NoBack => k_is)
    (case aC_NoRow => k_is)
    (case aC_LotError => k_is)
    (case hn_ => k_is)
    (case ht_ => k_is)
    (case a_NoMember___init__ => k_is)
    (case l_NoMember___init__ => k_is)
    (case c_NoMember___init__ => k_is)
    (case k_NoMember___init__ => k_is)
    (case a_NoDrawing___init__ => k_is)
    (case l_NoDrawing___init__ => k_is)
    (case c_NoDrawing___init__ => k_is)
    (case k_NoDrawing___init__ => k_is)
    (case a_TooFew___init__ => k_is)
    (case l_TooFew___init__ => k_is)
    (case c_TooFew___init__ => k_is)
    (case k_TooFew___init__ => k_is)
    (case a_NoNumber___init__ => k_is)
    (case l_NoNumber___init__ => k_is)
    (case c_NoNumber___init__ => k_is)
    (case k_NoNumber___init__ => k_is)
    (case a_TooMany___init__ => k_is)
    (case l_TooMany___init__ => k_is)
    (case c_TooMany___init__ => k_is)
    (case k_TooMany___init__ => k_is)
    (case a_Twice___init__ => k_is)
    (case l_Twice___init__ => k_is)
    (case c_Twice___init__ => k_is)
    (case k_Twice___init__ => k_is)
    (case a_NoText___init__ => k_is)
    (case l_NoText___init__ => k_is)
    (case c_NoText___init__ => k_is)
    (case k_NoText___init__ => k_is)
    (case a_NoBar___init__ => k_is)
    (case l_NoBar___init__ => k_is)
    (case c_NoBar___init__ => k_is)
    (case k_NoBar___init__ => k_is)
    (case a__law_blend => k_is)
    (case l__law_blend => k_is)
    (case c__law_blend => k_is)
    (case k__law_blend => k_is)
    (case a__law_pot => k_is)
    (case l__law_pot => k_is)
    (case c__law_pot => k_is)
    (case k__law_pot => k_is)
    (case a__law_draw => k_is)
    (case l__law_draw => k_is)
    (case c__law_draw => k_is)
    (case k__law_draw => k_is)
    (case a__law_pick => k_is)
    (case l__law_pick => k_is)
    (case c__law_pick => k_is)
    (case k__law_pick => k_is)
    (case a__law_things => k_is)
    (case l__law_things => k_is)
    (case c__law_things => k_is)
    (case k__law_things => k_is)
    (case a__law_made => k_is)
    (case l__law_made => k_is)
    (case c__law_made => k_is)
    (case k__law_made => k_is)
    (case a__law_kept => k_is)
    (case l__law_kept => k_is)
    (case c__law_kept => k_is)
    (case k__law_kept => k_is)
    (case a__law_classes => k_is)
    (case l__law_classes => k_is)
    (case c__law_classes => k_is)
    (case k__law_classes => k_is)
    (case a__law_raised => k_is)
    (case l__law_raised => k_is)
    (case c__law_raised => k_is)
    (case k__law_raised => k_is)
    (case a__law_right => k_is)
    (case l__law_right => k_is)
    (case c__law_right => k_is)
    (case k__law_right => k_is)
    (case a_law => k_is)
    (case l_law => k_is)
    (case c_law => k_is)
    (case k_law => k_is)
    (case ga_NoMember => k_is)
    (case gg_NoMember => k_is)
    (case ex_NoMember => k_is)
    (case hd_NoMember => k_is)
    (case ty_NoMember => k_is)
    (case kc_NoMember => k_is)
    (case ha_NoMember => k_is)
    (case hm_NoMember => k_is)
    (case xL_NoMember => k_is)
    (case sa_NoMember => k_is)
    (case t_NoMember => k_is)
    (case no_NoMember_name => k_is)
    (case ga_NoDrawing => k_is)
    (case gg_NoDrawing => k_is)
    (case ex_NoDrawing => k_is)
    (case hd_NoDrawing => k_is)
    (case ty_NoDrawing => k_is)
    (case kc_NoDrawing => k_is)
    (case ha_NoDrawing => k_is)
    (case hm_NoDrawing => k_is)
    (case xL_NoDrawing => k_is)
    (case sa_NoDrawing => k_is)
    (case t_NoDrawing => k_is)
    (case no_NoDrawing_thing => k_is)
    (case ga_TooFew => k_is)
    (case gg_TooFew => k_is)
    (case ex_TooFew => k_is)
    (case hd_TooFew => k_is)
    (case ty_TooFew => k_is)
    (case kc_TooFew => k_is)
    (case ha_TooFew => k_is)
    (case hm_TooFew => k_is)
    (case xL_TooFew => k_is)
    (case sa_TooFew => k_is)
    (case t_TooFew => k_is)
    (case no_TooFew_lot => k_is)
    (case ga_NoNumber => k_is)
    (case gg_NoNumber => k_is)
    (case ex_NoNumber => k_is)
    (case hd_NoNumber => k_is)
    (case ty_NoNumber => k_is)
    (case kc_NoNumber => k_is)
    (case ha_NoNumber => k_is)
    (case hm_NoNumber => k_is)
    (case xL_NoNumber => k_is)
    (case sa_NoNumber => k_is)
    (case t_NoNumber => k_is)
    (case no_NoNumber_number => k_is)
    (case ga_TooMany => k_is)
    (case gg_TooMany => k_is)
    (case ex_TooMany => k_is)
    (case hd_TooMany => k_is)
    (case ty_TooMany => k_is)
    (case kc_TooMany => k_is)
    (case ha_TooMany => k_is)
    (case hm_TooMany => k_is)
    (case xL_TooMany => k_is)
    (case sa_TooMany => k_is)
    (case t_TooMany => k_is)
    (case no_TooMany_many => k_is)
    (case ga_Twice => k_is)
    (case gg_Twice => k_is)
    (case ex_Twice => k_is)
    (case hd_Twice => k_is)
    (case ty_Twice => k_is)
    (case kc_Twice => k_is)
    (case ha_Twice => k_is)
    (case hm_Twice => k_is)
    (case xL_Twice => k_is)
    (case sa_Twice => k_is)
    (case t_Twice => k_is)
    (case no_Twice_name => k_is)
    (case ga_NoText => k_is)
    (case gg_NoText => k_is)
    (case ex_NoText => k_is)
    (case hd_NoText => k_is)
    (case ty_NoText => k_is)
    (case kc_NoText => k_is)
    (case ha_NoText => k_is)
    (case hm_NoText => k_is)
    (case xL_NoText => k_is)
    (case sa_NoText => k_is)
    (case t_NoText => k_is)
    (case no_NoText_row => k_is)
    (case ga_NoBar => k_is)
    (case gg_NoBar => k_is)
    (case ex_NoBar => k_is)
    (case hd_NoBar => k_is)
    (case ty_NoBar => k_is)
    (case kc_NoBar => k_is)
    (case ha_NoBar => k_is)
    (case hm_NoBar => k_is)
    (case xL_NoBar => k_is)
    (case sa_NoBar => k_is)
    (case t_NoBar => k_is)
    (case no_NoBar_giver => k_is)
    (case no_NoBar_taker => k_is)
    (case ga_NoYear => k_is)
    (case gg_NoYear => k_is)
    (case ex_NoYear => k_is)
    (case hd_NoYear => k_is)
    (case ty_NoYear => k_is)
    (case kc_NoYear => k_is)
    (case ha_NoYear => k_is)
    (case hm_NoYear => k_is)
    (case xi_NoYear => first | k_is | k_exc)
    (case ga_NoBack => k_is)
    (case gg_NoBack => k_is)
    (case ex_NoBack => k_is)
    (case hd_NoBack => k_is)
    (case ty_NoBack => k_is)
    (case kc_NoBack => k_is)
    (case ha_NoBack => k_is)
    (case hm_NoBack => k_is)
    (case xi_NoBack => first | k_is | k_exc)
    (case ga_NoRow => k_is)
    (case gg_NoRow => k_is)
    (case ex_NoRow => k_is)
    (case hd_NoRow => k_is)
    (case ty_NoRow => k_is)
    (case kc_NoRow => k_is)
    (case ha_NoRow => k_is)
    (case hm_NoRow => k_is)
    (case xi_NoRow => first | k_is | k_exc)
    (case ga_LotError => k_is)
    (case gg_LotError => k_is)
    (case ex_LotError => k_is)
    (case hd_LotError => k_is)
    (case ty_LotError => k_is)
    (case kc_LotError => k_is)
    (case ha_LotError => k_is)
    (case hm_LotError => k_is)
    (case li1 => k_is)
    (case li2 => k_is)
    (case li3 => k_is)
    (case ko_NoMember_NoMember => first | k_is | kit_is)
    (case ko_NoMember_NoDrawing => first | k_is | kit_is)
    (case ko_NoMember_TooFew => first | k_is | kit_is)
    (case ko_NoMember_NoNumber => first | k_is | kit_is)
    (case ko_NoMember_TooMany => first | k_is | kit_is)
    (case ko_NoMember_Twice => first | k_is | kit_is)
    (case ko_NoMember_NoText => first | k_is | kit_is)
    (case ko_NoMember_NoBar => first | k_is | kit_is)
    (case ko_NoMember_NoYear => first | k_is | kit_is)
    (case ko_NoMember_NoBack => first | k_is | kit_is)
    (case ko_NoMember_NoRow => first | k_is | kit_is)
    (case ko_NoMember_LotError => first | k_is | kit_is)
    (case ko_NoMember_ValueError => first | k_is | kit_is)
    (case ko_NoDrawing_NoMember => first | k_is | kit_is)
    (case ko_NoDrawing_NoDrawing => first | k_is | kit_is)
    (case ko_NoDrawing_TooFew => first | k_is | kit_is)
    (case ko_NoDrawing_NoNumber => first | k_is | kit_is)
    (case ko_NoDrawing_TooMany => first | k_is | kit_is)
    (case ko_NoDrawing_Twice => first | k_is | kit_is)
    (case ko_NoDrawing_NoText => first | k_is | kit_is)
    (case ko_NoDrawing_NoBar => first | k_is | kit_is)
    (case ko_NoDrawing_NoYear => first | k_is | kit_is)
    (case ko_NoDrawing_NoBack => first | k_is | kit_is)
    (case ko_NoDrawing_NoRow => first | k_is | kit_is)
    (case ko_NoDrawing_LotError => first | k_is | kit_is)
    (case ko_NoDrawing_ValueError => first | k_is | kit_is)
    (case ko_TooFew_NoMember => first | k_is | kit_is)
    (case ko_TooFew_NoDrawing => first | k_is | kit_is)
    (case ko_TooFew_TooFew => first | k_is | kit_is)
    (case ko_TooFew_NoNumber => first | k_is | kit_is)
    (case ko_TooFew_TooMany => first | k_is | kit_is)
    (case ko_TooFew_Twice => first | k_is | kit_is)
    (case ko_TooFew_NoText => first | k_is | kit_is)
    (case ko_TooFew_NoBar => first | k_is | kit_is)
    (case ko_TooFew_NoYear => first | k_is | kit_is)
    (case ko_TooFew_NoBack => first | k_is | kit_is)
    (case ko_TooFew_NoRow => first | k_is | kit_is)
    (case ko_TooFew_LotError => first | k_is | kit_is)
    (case ko_TooFew_ValueError => first | k_is | kit_is)
    (case ko_NoNumber_NoMember => first | k_is | kit_is)
    (case ko_NoNumber_NoDrawing => first | k_is | kit_is)
    (case ko_NoNumber_TooFew => first | k_is | kit_is)
    (case ko_NoNumber_NoNumber => first | k_is | kit_is)
    (case ko_NoNumber_TooMany => first | k_is | kit_is)
    (case ko_NoNumber_Twice => first | k_is | kit_is)
    (case ko_NoNumber_NoText => first | k_is | kit_is)
    (case ko_NoNumber_NoBar => first | k_is | kit_is)
    (case ko_NoNumber_NoYear => first | k_is | kit_is)
    (case ko_NoNumber_NoBack => first | k_is | kit_is)
    (case ko_NoNumber_NoRow => first | k_is | kit_is)
    (case ko_NoNumber_LotError => first | k_is | kit_is)
    (case ko_NoNumber_ValueError => first | k_is | kit_is)
    (case ko_TooMany_NoMember => first | k_is | kit_is)
    (case ko_TooMany_NoDrawing => first | k_is | kit_is)
    (case ko_TooMany_TooFew => first | k_is | kit_is)
    (case ko_TooMany_NoNumber => first | k_is | kit_is)
    (case ko_TooMany_TooMany => first | k_is | kit_is)
    (case ko_TooMany_Twice => first | k_is | kit_is)
    (case ko_TooMany_NoText => first | k_is | kit_is)
    (case ko_TooMany_NoBar => first | k_is | kit_is)
    (case ko_TooMany_NoYear => first | k_is | kit_is)
    (case ko_TooMany_NoBack => first | k_is | kit_is)
    (case ko_TooMany_NoRow => first | k_is | kit_is)
    (case ko_TooMany_LotError => first | k_is | kit_is)
    (case ko_TooMany_ValueError => first | k_is | kit_is)
    (case ko_Twice_NoMember => first | k_is | kit_is)
    (case ko_Twice_NoDrawing => first | k_is | kit_is)
    (case ko_Twice_TooFew => first | k_is | kit_is)
    (case ko_Twice_NoNumber => first | k_is | kit_is)
    (case ko_Twice_TooMany => first | k_is | kit_is)
    (case ko_Twice_Twice => first | k_is | kit_is)
    (case ko_Twice_NoText => first | k_is | kit_is)
    (case ko_Twice_NoBar => first | k_is | kit_is)
    (case ko_Twice_NoYear => first | k_is | kit_is)
    (case ko_Twice_NoBack => first | k_is | kit_is)
    (case ko_Twice_NoRow => first | k_is | kit_is)
    (case ko_Twice_LotError => first | k_is | kit_is)
    (case ko_Twice_ValueError => first | k_is | kit_is)
    (case ko_NoText_NoMember => first | k_is | kit_is)
    (case ko_NoText_NoDrawing => first | k_is | kit_is)
    (case ko_NoText_TooFew => first | k_is | kit_is)
    (case ko_NoText_NoNumber => first | k_is | kit_is)
    (case ko_NoText_TooMany => first | k_is | kit_is)
    (case ko_NoText_Twice => first | k_is | kit_is)
    (case ko_NoText_NoText => first | k_is | kit_is)
    (case ko_NoText_NoBar => first | k_is | kit_is)
    (case ko_NoText_NoYear => first | k_is | kit_is)
    (case ko_NoText_NoBack => first | k_is | kit_is)
    (case ko_NoText_NoRow => first | k_is | kit_is)
    (case ko_NoText_LotError => first | k_is | kit_is)
    (case ko_NoText_ValueError => first | k_is | kit_is)
    (case ko_NoBar_NoMember => first | k_is | kit_is)
    (case ko_NoBar_NoDrawing => first | k_is | kit_is)
    (case ko_NoBar_TooFew => first | k_is | kit_is)
    (case ko_NoBar_NoNumber => first | k_is | kit_is)
    (case ko_NoBar_TooMany => first | k_is | kit_is)
    (case ko_NoBar_Twice => first | k_is | kit_is)
    (case ko_NoBar_NoText => first | k_is | kit_is)
    (case ko_NoBar_NoBar => first | k_is | kit_is)
    (case ko_NoBar_NoYear => first | k_is | kit_is)
    (case ko_NoBar_NoBack => first | k_is | kit_is)
    (case ko_NoBar_NoRow => first | k_is | kit_is)
    (case ko_NoBar_LotError => first | k_is | kit_is)
    (case ko_NoBar_ValueError => first | k_is | kit_is)
    (case ko_NoYear_NoMember => first | k_is | kit_is)
    (case ko_NoYear_NoDrawing => first | k_is | kit_is)
    (case ko_NoYear_TooFew => first | k_is | kit_is)
    (case ko_NoYear_NoNumber => first | k_is | kit_is)
    (case ko_NoYear_TooMany => first | k_is | kit_is)
    (case ko_NoYear_Twice => first | k_is | kit_is)
    (case ko_NoYear_NoText => first | k_is | kit_is)
    (case ko_NoYear_NoBar => first | k_is | kit_is)
    (case ko_NoYear_NoYear => first | k_is | kit_is)
    (case ko_NoYear_NoBack => first | k_is | kit_is)
    (case ko_NoYear_NoRow => first | k_is | kit_is)
    (case ko_NoYear_LotError => first | k_is | kit_is)
    (case ko_NoYear_ValueError => first | k_is | kit_is)
    (case ko_NoBack_NoMember => first | k_is | kit_is)
    (case ko_NoBack_NoDrawing => first | k_is | kit_is)
    (case ko_NoBack_TooFew => first | k_is | kit_is)
    (case ko_NoBack_NoNumber => first | k_is | kit_is)
    (case ko_NoBack_TooMany => first | k_is | kit_is)
    (case ko_NoBack_Twice => first | k_is | kit_is)
    (case ko_NoBack_NoText => first | k_is | kit_is)
    (case ko_NoBack_NoBar => first | k_is | kit_is)
    (case ko_NoBack_NoYear => first | k_is | kit_is)
    (case ko_NoBack_NoBack => first | k_is | kit_is)
    (case ko_NoBack_NoRow => first | k_is | kit_is)
    (case ko_NoBack_LotError => first | k_is | kit_is)
    (case ko_NoBack_ValueError => first | k_is | kit_is)
    (case ko_NoRow_NoMember => first | k_is | kit_is)
    (case ko_NoRow_NoDrawing => first | k_is | kit_is)
    (case ko_NoRow_TooFew => first | k_is | kit_is)
    (case ko_NoRow_NoNumber => first | k_is | kit_is)
    (case ko_NoRow_TooMany => first | k_is | kit_is)
    (case ko_NoRow_Twice => first | k_is | kit_is)
    (case ko_NoRow_NoText => first | k_is | kit_is)
    (case ko_NoRow_NoBar => first | k_is | kit_is)
    (case ko_NoRow_NoYear => first | k_is | kit_is)
    (case ko_NoRow_NoBack => first | k_is | kit_is)
    (case ko_NoRow_NoRow => first | k_is | kit_is)
    (case ko_NoRow_LotError => first | k_is | kit_is)
    (case ko_NoRow_ValueError => first | k_is | kit_is)
    (case su_NoMember => k_is)
    (case su_NoDrawing => k_is)
    (case su_TooFew => k_is)
    (case su_NoNumber => k_is)
    (case su_TooMany => k_is)
    (case su_Twice => k_is)
    (case su_NoText => k_is)
    (case su_NoBar => k_is)
    (case n_len => k_is)
    (case n_abs => k_is)
    (case n_all => k_is)
    (case n_repr => k_is)
    (case n_range => k_is)
    (case n_isinstance => k_is)
    (case n_list => k_is)
    (case n_ValueError => k_is)
