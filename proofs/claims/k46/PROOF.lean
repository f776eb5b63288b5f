import PyProof.Rows.All
import Wide.All
import OpenK.AllK
import Wide.FinOn
import HandS.ExcInit
import HandS.ExcIs
import HandS.ExcField
import HandS.WordsExc
import HandS.ForMost
import HandS.Exc
import HandS.EndBits
import HandS.Wide
import HandS.TupAny
import HandS.TupMul
import HandS.Deep
import HandS.FStr
import HandS.RaiseMore
import HandS.IsInst
import HandS.ExcOwn
import HandS.Comp
import PyProof.CallFns
import HandS.Dict
import HandS.Small
import HandS.WordsDict
import KE.SortData
import PyProof.Rows.SortWalk
import HandS.Conv
import HandS.More
import KE.KDictSum
import PyProof.TupleOfSeq
import KE.KCallOwn
import HandS.ExcValue
import PyProof.StrOps2
import PyProof.ReprRoads
import HandS.Text
import HandS.StrMore
import PyProof.Rows.RuleB_pow
import HandS.Zip
import HandS.TupLe
import HandS.Strs
import HandS.Style
import HandS.Set
import HandS.SetFor
import KE.OsSortAny
import KE.KRevSl
import PyProof.ListRange
import PyProof.StrWalks
import HandS.Sort
import HandS.TupSets
import KE.KDictPairs
import KE.KDictKeyed
import KE.KDictZip
import KE.KDictItemsList
import KE.DataMinMax
import HandS.OwnEq
import HandS.Defaults
import KE.DataCmp
import PyProof.AutoSeq1
import KE.KIntText
import PyProof.Rows.Digits
import PyProof.Rows.StrCut
import PyProof.StrLawsChain
import KE.SortLaws
import PyProof.ReprLen
import PySem.Challenge.RW_lotgivers_k46_years_shown_of_any_size
set_option Elab.async false
set_option linter.all false
set_option maxRecDepth 100000
set_option maxHeartbeats 4000000
/-! an own exception class over ValueError, made with keywords -/
namespace PySem.MPX
open PySem PySem.Spec PySem.HandSPX
section
variable {prog : Program} {w : World} {M : Model} {A : Around} {E : Value → Shared → Prop} {R : Result → Shared → Prop} {h : Heap} {g : Array GenState} {d : Drawn} {t : Nat} {os : OsState}
variable {nm q : Str} {C N : Addr} {bs bm bmB : List Value} {hdct : Bool} {sn : List Str} {sub : List Value} {ab : Bool} {col : Option Bool} {dd : Option Addr} {k0 k1 k2 k3 k5 : Option Value} {B newId initId : String}
end
end PySem.MPX

namespace MP
open PySem PySem.Spec PyProof.Rows L2

/-- an own class that takes ValueError's __init__ over -/
structure LInit (K : PySem.W.Frag) (L : Addr) (mc : Value) : Prop where
  rd : PySem.W.readsIn K L mc = true
  ga : PySem.W.specialIn K (.ref L) "__getattribute__" = some (some (.builtin "type.__getattribute__"))
  at_ : PySem.W.findCls K (.ref L) mc "__init__" = some (.val (.builtin "ValueError.__init__"))
section
variable {X : Cx} {e : Expr} {es : List Expr} {ta : TA} {p1 p2 pos : Pos}
end

/-- __init__ of one field, of two -/
def spE (K : PySem.W.Frag) (fs : List Str) : Sp := fun vs H Q _ => ∃ (e C : Addr) (ys : List V), vs = .ref e :: ys ∧ ys.length = fs.length ∧ OexC K C ∧ (∀ f ∈ fs, PySem.W.findIn K (.ref C) f = some none) ∧ H e = some (exo e C none) ∧
  ∀ dx, H dx = none → dx ≠ e → Q .non (upd (upd H dx (exd dx (fs.zip ys).reverse)) e (exo e C (some dx)))
end MP

namespace MP
open PySem PySem.Spec PyProof.Rows L2

/-- deep data: tuples, lists that nobody changes any more, dicts and objects likewise; ref: an object of the store -/
inductive D where
  | non | bl (b : Bool) | int (i : Int) | str (s : Str)
  | tup (xs : List D) | ftup (xs : List D) | lst (xs : List D) | dct (t : Bool) (kvs : List (D × D)) | obj (C : Addr) (fs : List (Str × D)) | exn (C : Addr) (fs : List (Str × D)) | ref (i : Nat)

inductive O where
  | lst (xs : List D) | dct (t : Bool) (kvs : List (D × D)) | ins (C : Addr) (fs : List (Str × D))

abbrev Sto := List O
abbrev Ev := List (Option D)

inductive R (α : Type) where
  | ok (a : α) (S : Sto)
  | exc (C : Addr) (fs : List (Str × D)) (S : Sto)
  | bad
def R.bind {α β : Type} (r : R α) (f : α → Sto → R β) : R β := match r with
  | .ok a S => f a S
  | .exc C fs S => .exc C fs S
  | .bad => .bad
theorem bind_ok {α β : Type} (a : α) (S : Sto) (f : α → Sto → R β) : (R.ok a S).bind f = f a S := rfl
def keyD : Key → D
  | .inl i => .int i
  | .inr s => .str s

/-- at a: an exception of the class at C, its dict (none | at d) -/
def ExV (C : Addr) (d : Option Addr) (a : Addr) : HO := .ext fun h => ∃ (oe : Obj) (vs : Array Value), h.get? a = some oe ∧ Zc (.ref C) d oe ∧ oe.data = .fields vs
/-- at dd: the dict of an exception -/
def XdAt (H : Hp) (dd : Addr) (fs : List (Str × V)) : Prop := H dd = some (exd dd fs) ∨ H dd = some (.xd fs)
theorem XdAt.has {H : Hp} {dd : Addr} {fs : List (Str × V)} (h : XdAt H dd fs) : ∃ o, H dd = some o := by
  rcases h with h | h
  · exact ⟨_, h⟩
  · exact ⟨_, h⟩

mutual
inductive VR (K : PySem.W.Frag) (m : List Addr) (H : Hp) : V → D → Prop where
  | non : VR K m H .non .non
  | bl (b : Bool) : VR K m H (.bl b) (.bl b)
  | int (i : Int) : VR K m H (.int i) (.int i)
  | str (s : Str) : VR K m H (.str s) (.str s)
  | tup {a : Addr} {vs : List V} {ds : List D} (h : H a = some (.tup vs)) (r : VRs K m H vs ds) : VR K m H (.ref a) (.tup ds)
  | ftup {a : Addr} {vs : List V} {ds : List D} {o : Obj} (hd : o.dict = none) (h : H a = some (.frz o (.tup vs))) (r : VRs K m H vs ds) : VR K m H (.ref a) (.ftup ds)
  | lst {a : Addr} {vs : List V} {ds : List D} (n : a ∉ m) (h : Rd H a (.lst vs)) (r : VRs K m H vs ds) : VR K m H (.ref a) (.lst ds)
  | lstK {a : Addr} {vs : List V} {ds : List D} {o : Obj} {its : Array Value} {n : Nat} (hk : K.lookup a = some o) (h1 : o.cls = .type "list") (h2 : o.dict = none) (h3 : o.data = .seq its n) (h4 : its.size ≤ sizeLine) (h5 : Vals vs its.toList) (r : VRs K m H vs ds) : VR K m H (.ref a) (.lst ds)
  | dct {a : Addr} {vs : List (Key × V)} {ds : List (D × D)} (n : a ∉ m) (h : H a = some (.dK vs)) (r : VDk K m H vs ds) : VR K m H (.ref a) (.dct false ds)
  | dctT {a : Addr} {vs : List (List Key × V)} {ds : List (D × D)} (n : a ∉ m) (h : H a = some (.dT vs)) (r : VDt K m H vs ds) : VR K m H (.ref a) (.dct true ds)
  | obj {a C dx : Addr} {fs : List (Str × V)} {gs : List (Str × D)} (n : a ∉ m) (h : H a = some (.ins C dx fs)) (r : VFs K m H fs gs) : VR K m H (.ref a) (.obj C gs)
  | exn0 {a C : Addr} (n : a ∉ m) (h : H a = some (ExV C none a)) : VR K m H (.ref a) (.exn C [])
  | exnD {a C dd : Addr} {fs : List (Str × V)} {gs : List (Str × D)} (n : a ∉ m) (nd : dd ∉ m) (h : H a = some (ExV C (some dd) a)) (hd : XdAt H dd fs) (r : VFs K m H fs gs) : VR K m H (.ref a) (.exn C gs)
  | ref {i : Nat} {a : Addr} (h : m[i]? = some a) : VR K m H (.ref a) (.ref i)
inductive VRs (K : PySem.W.Frag) (m : List Addr) (H : Hp) : List V → List D → Prop where
  | nil : VRs K m H [] []
  | cons {v : V} {d : D} {vs : List V} {ds : List D} (h : VR K m H v d) (r : VRs K m H vs ds) : VRs K m H (v :: vs) (d :: ds)
inductive VFs (K : PySem.W.Frag) (m : List Addr) (H : Hp) : List (Str × V) → List (Str × D) → Prop where
  | nil : VFs K m H [] []
  | cons {f : Str} {v : V} {d : D} {vs : List (Str × V)} {ds : List (Str × D)} (h : VR K m H v d) (r : VFs K m H vs ds) : VFs K m H ((f, v) :: vs) ((f, d) :: ds)
inductive VDk (K : PySem.W.Frag) (m : List Addr) (H : Hp) : List (Key × V) → List (D × D) → Prop where
  | nil : VDk K m H [] []
  | cons {k : Key} {v : V} {d : D} {vs : List (Key × V)} {ds : List (D × D)} (h : VR K m H v d) (r : VDk K m H vs ds) : VDk K m H ((k, v) :: vs) ((keyD k, d) :: ds)
inductive VDt (K : PySem.W.Frag) (m : List Addr) (H : Hp) : List (List Key × V) → List (D × D) → Prop where
  | nil : VDt K m H [] []
  | cons {k : List Key} {v : V} {d : D} {vs : List (List Key × V)} {ds : List (D × D)} (h : VR K m H v d) (r : VDt K m H vs ds) : VDt K m H ((k, v) :: vs) ((.tup (k.map keyD), d) :: ds)
end

/-- from (m, H) on: the store's places stay and grow by new ones; what is not in the store stays -/
structure Ext (m : List Addr) (H : Hp) (m' : List Addr) (H' : Hp) : Prop where
  pre : ∃ l, m' = m ++ l
  new : ∀ a ∈ m', a ∈ m ∨ H a = none
  keep : ∀ a o, a ∉ m → H a = some o → H' a = some o

inductive OR (K : PySem.W.Frag) (m : List Addr) (H : Hp) (a : Addr) : O → Prop where
  | lst {vs : List V} {ds : List D} (h : H a = some (.lst vs)) (r : VRs K m H vs ds) : OR K m H a (.lst ds)
  | dct {vs : List (Key × V)} {ds : List (D × D)} (h : H a = some (.dK vs)) (r : VDk K m H vs ds) : OR K m H a (.dct false ds)
  | dctT {vs : List (List Key × V)} {ds : List (D × D)} (h : H a = some (.dT vs)) (r : VDt K m H vs ds) : OR K m H a (.dct true ds)
  | ins {C dx : Addr} {fs : List (Str × V)} {gs : List (Str × D)} (h : H a = some (.ins C dx fs)) (r : VFs K m H fs gs) : OR K m H a (.ins C gs)

structure SR (K : PySem.W.Frag) (m : List Addr) (H : Hp) (S : Sto) : Prop where
  nd : m.Nodup
  len : m.length = S.length
  at_ : ∀ (i : Nat) (a : Addr) (o : O), m[i]? = some a → S[i]? = some o → OR K m H a o

theorem OR.mut {K : PySem.W.Frag} {m : List Addr} {H : Hp} {a : Addr} {o : O} (h : OR K m H a o) : Mut (H a) := by
  cases h with
  | lst h _ => rw [h]; trivial
  | dct h _ => rw [h]; trivial
  | dctT h _ => rw [h]; trivial
  | ins h _ => rw [h]; trivial
theorem SR.mut {K : PySem.W.Frag} {m : List Addr} {H : Hp} {S : Sto} (x : SR K m H S) {a : Addr} (h : a ∈ m) : Mut (H a) := by
  obtain ⟨i, hi, e⟩ := List.mem_iff_getElem.mp h
  have hs : i < S.length := x.len ▸ hi
  exact (x.at_ i a S[i] (by rw [List.getElem?_eq_getElem hi, e]) (List.getElem?_eq_getElem hs)).mut
theorem not_mut_tup {H : Hp} {a : Addr} {xs : List V} (h : Rd H a (.tup xs)) : ¬ Mut (H a) := by
  rcases h with h | ⟨o, h⟩
  · rw [h]; exact fun z => z
  · rw [h]; exact fun z => z
theorem Ext.refl {m : List Addr} {H : Hp} : Ext m H m H := ⟨⟨[], by simp⟩, fun a h => .inl h, fun _ _ _ h => h⟩
theorem Ext.sub {m m' : List Addr} {H H' : Hp} (e : Ext m H m' H') {a : Addr} (h : a ∈ m) : a ∈ m' := by
  obtain ⟨l, e⟩ := e.pre
  rw [e]; exact List.mem_append_left _ h
theorem Ext.trans {m m1 m2 : List Addr} {H H1 H2 : Hp} (a : Ext m H m1 H1) (b : Ext m1 H1 m2 H2) : Ext m H m2 H2 := by
  have key : ∀ c o, c ∉ m → H c = some o → c ∉ m1 := fun c o n e z => by
    rcases a.new c z with y | y
    · exact n y
    · rw [y] at e; cases e
  refine ⟨?_, fun c hc => ?_, fun c o n e => b.keep c o (key c o n e) (a.keep c o n e)⟩
  · obtain ⟨l, e⟩ := a.pre
    obtain ⟨k, f⟩ := b.pre
    exact ⟨l ++ k, by rw [f, e, List.append_assoc]⟩
  · by_cases hm : c ∈ m
    · exact .inl hm
    · right
      cases q : H c with
      | none => rfl
      | some o =>
        rcases b.new c hc with y | y
        · exact absurd y (key c o hm q)
        · rw [a.keep c o hm q] at y; cases y
theorem Ext.rd {m m' : List Addr} {H H' : Hp} (e : Ext m H m' H') {a : Addr} {u : HO} (n : a ∉ m) (h : Rd H a u) : Rd H' a u := by
  rcases h with h | ⟨o, h⟩
  · exact .inl (e.keep a _ n h)
  · exact .inr ⟨o, e.keep a _ n h⟩
theorem Rd.has {H : Hp} {a : Addr} {u : HO} (h : Rd H a u) : ∃ o, H a = some o := by
  rcases h with h | ⟨o, h⟩
  · exact ⟨_, h⟩
  · exact ⟨_, h⟩
theorem Ext.nin {m m' : List Addr} {H H' : Hp} (e : Ext m H m' H') {a : Addr} (n : a ∉ m) (h : ∃ o, H a = some o) : a ∉ m' := fun z => by
  obtain ⟨o, h⟩ := h
  rcases e.new a z with y | y
  · exact n y
  · rw [y] at h; cases h
theorem Ext.get {m m' : List Addr} {H H' : Hp} (e : Ext m H m' H') {i : Nat} {a : Addr} (h : m[i]? = some a) : m'[i]? = some a := by
  obtain ⟨l, e⟩ := e.pre
  rw [e, List.getElem?_append_left (List.getElem?_eq_some_iff.mp h).1]
  exact h

section
variable {K : PySem.W.Frag} {m m' : List Addr} {H H' : Hp}
theorem frz_ext (e : Ext m H m' H') (mu : ∀ a ∈ m, Mut (H a)) {a : Addr} {o : Obj} {vs : List V} (h : H a = some (.frz o (.tup vs))) : H' a = some (.frz o (.tup vs)) :=
  e.keep _ _ (fun z => not_mut_tup (.inr ⟨o, h⟩) (mu a z)) h
theorem Rd.sup {H Hx : Hp} {a : Addr} {u : HO} (sup : ∀ b o, H b = some o → Hx b = some o) (h : Rd H a u) : Rd Hx a u := h.imp (sup _ _) fun ⟨o, e⟩ => ⟨o, sup _ _ e⟩
theorem SqT.rd {K : PySem.W.Frag} {H : Hp} {a : Addr} {xs : List V} (h : Rd H a (.tup xs)) : SqT K H a xs := .inl h
theorem tup_ext (e : Ext m H m' H') (mu : ∀ a ∈ m, Mut (H a)) {a : Addr} {vs : List V} (h : H a = some (.tup vs)) : H' a = some (.tup vs) :=
  e.keep _ _ (fun z => not_mut_tup (.inl h) (mu a z)) h
mutual
theorem VR.ext (e : Ext m H m' H') (mu : ∀ a ∈ m, Mut (H a)) {v : V} {d : D} : VR K m H v d → VR K m' H' v d
  | .non => .non
  | .bl b => .bl b
  | .int i => .int i
  | .str s => .str s
  | .tup h r => .tup (tup_ext e mu h) (VRs.ext e mu r)
  | .ftup hd h r => .ftup hd (frz_ext e mu h) (VRs.ext e mu r)
  | .lst n h r => .lst (e.nin n (Rd.has h)) (e.rd n h) (VRs.ext e mu r)
  | .lstK hk h1 h2 h3 h4 h5 r => .lstK hk h1 h2 h3 h4 h5 (VRs.ext e mu r)
  | .dct n h r => .dct (e.nin n ⟨_, h⟩) (e.keep _ _ n h) (VDk.ext e mu r)
  | .dctT n h r => .dctT (e.nin n ⟨_, h⟩) (e.keep _ _ n h) (VDt.ext e mu r)
  | .obj n h r => .obj (e.nin n ⟨_, h⟩) (e.keep _ _ n h) (VFs.ext e mu r)
  | .exn0 n h => .exn0 (e.nin n ⟨_, h⟩) (e.keep _ _ n h)
  | .exnD n nd h hd r => .exnD (e.nin n ⟨_, h⟩) (e.nin nd hd.has) (e.keep _ _ n h) (hd.imp (e.keep _ _ nd) (e.keep _ _ nd)) (VFs.ext e mu r)
  | .ref h => .ref (e.get h)
theorem VRs.ext (e : Ext m H m' H') (mu : ∀ a ∈ m, Mut (H a)) {v : List V} {d : List D} : VRs K m H v d → VRs K m' H' v d
  | .nil => .nil
  | .cons h r => .cons (VR.ext e mu h) (VRs.ext e mu r)
theorem VFs.ext (e : Ext m H m' H') (mu : ∀ a ∈ m, Mut (H a)) {v : List (Str × V)} {d : List (Str × D)} : VFs K m H v d → VFs K m' H' v d
  | .nil => .nil
  | .cons h r => .cons (VR.ext e mu h) (VFs.ext e mu r)
theorem VDk.ext (e : Ext m H m' H') (mu : ∀ a ∈ m, Mut (H a)) {v : List (Key × V)} {d : List (D × D)} : VDk K m H v d → VDk K m' H' v d
  | .nil => .nil
  | .cons h r => .cons (VR.ext e mu h) (VDk.ext e mu r)
theorem VDt.ext (e : Ext m H m' H') (mu : ∀ a ∈ m, Mut (H a)) {v : List (List Key × V)} {d : List (D × D)} : VDt K m H v d → VDt K m' H' v d
  | .nil => .nil
  | .cons h r => .cons (VR.ext e mu h) (VDt.ext e mu r)
end
end

/-- the slots -/
structure ER (K : PySem.W.Frag) (m : List Addr) (H : Hp) (σ : L2.St) (ρ : Ev) : Prop where
  at_ : ∀ (i : Nat) (d : D), ρ[i]? = some (some d) → ∃ v, σ[i]? = some (some v) ∧ VR K m H v d
  len : ρ.length = σ.length
theorem ER.ext {K : PySem.W.Frag} {m m' : List Addr} {H H' : Hp} {σ : L2.St} {ρ : Ev} (r : ER K m H σ ρ) (e : Ext m H m' H') (mu : ∀ a ∈ m, Mut (H a)) : ER K m' H' σ ρ := ⟨fun i d h => by
  obtain ⟨v, h1, h2⟩ := r.at_ i d h
  exact ⟨v, h1, h2.ext e mu⟩, r.len⟩
theorem ER.set {K : PySem.W.Frag} {m : List Addr} {H : Hp} {σ : L2.St} {ρ : Ev} (r : ER K m H σ ρ) {i : Nat} {v : V} {d : D} (h : VR K m H v d) : ER K m H (σ.set i (some v)) (ρ.set i (some d)) := ⟨fun j d' e => by
  have hl := r.len
  by_cases hj : i = j
  · subst hj
    have hi : i < ρ.length := by
      have := (List.getElem?_eq_some_iff.mp e).1
      simpa using this
    rw [List.getElem?_set_self hi] at e
    cases e
    exact ⟨v, by rw [List.getElem?_set_self (by omega)], h⟩
  · rw [List.getElem?_set_ne hj] at e ⊢
    exact r.at_ j d' e, by simp [r.len]⟩

/-- what an expression is worth -/
abbrev LE := Ev → Sto → R D
/-- behind an expression -/
def VP (X : Cx) (pins : List (Addr × Obj)) (σ : L2.St) (m : List Addr) (H : Hp) (d : D) (S' : Sto) (u : Value) (s' : Shared) : Prop :=
  ∃ v H' m', Inv X pins σ H' s' ∧ RelV v u ∧ Ext m H m' H' ∧ SR X.K m' H' S' ∧ VR X.K m' H' v d
def VPr (X : Cx) (pins : List (Addr × Obj)) (σ : L2.St) (m : List Addr) (H : Hp) (r : R D) (u : Value) (s' : Shared) : Prop := ∃ d S', r = .ok d S' ∧ VP X pins σ m H d S' u s'
/-- an exception that leaves, by the store -/
def WL (K : PySem.W.Frag) (m : List Addr) (H : Hp) (C : Addr) (fs : List (Str × D)) (S' : Sto) : Value → Option Addr → Hp → Prop := fun cls d H' =>
  cls = .ref C ∧ ∃ (dd : Addr) (vs : List (Str × V)) (m' : List Addr), d = some dd ∧ H' dd = some (.xd vs) ∧ Ext m H m' H' ∧ SR K m' H' S' ∧ VFs K m' H' vs fs
def Hope (X : Cx) (σ : L2.St) (m : List Addr) (H : Hp) {α : Type} (r : R α) : Prop :=
  r ≠ .bad ∧ ∀ C fs S', r = .exc C fs S' → ∀ u s', XE X (fun cls d σ' H' => σ' = σ ∧ WL X.K m H C fs S' cls d H') u s' → X.xe u s'
theorem WL.ext {K : PySem.W.Frag} {m m1 : List Addr} {H H1 : Hp} {C : Addr} {fs : List (Str × D)} {S' : Sto} {cls : Value} {d : Option Addr} {H' : Hp} (e : Ext m H m1 H1) (w : WL K m1 H1 C fs S' cls d H') : WL K m H C fs S' cls d H' := by
  obtain ⟨h1, dd, vs, m', h2, h3, h4, h5⟩ := w
  exact ⟨h1, dd, vs, m', h2, h3, e.trans h4, h5⟩
theorem XE.imp {X : Cx} {W W' : WX} {u : Value} {s' : Shared} (x : XE X W u s') (h : ∀ c d σ H, W c d σ H → W' c d σ H) : XE X W' u s' := by
  obtain ⟨a, B, sI, pins, σ, H, cls, d, e, I, nb, up, sky, na, os, ag, w⟩ := x
  exact ⟨a, B, sI, pins, σ, H, cls, d, e, I, nb, up, sky, na, os, ag, h _ _ _ _ w⟩
theorem Hope.ext {X : Cx} {σ : L2.St} {m m1 : List Addr} {H H1 : Hp} {α : Type} {r : R α} (h : Hope X σ m H r) (e : Ext m H m1 H1) : Hope X σ m1 H1 r :=
  ⟨h.1, fun C fs S' q u s' x => h.2 C fs S' q u s' (XE.imp x fun _ _ _ _ z => ⟨z.1, z.2.ext e⟩)⟩
theorem Hope.ok {X : Cx} {σ : L2.St} {m : List Addr} {H : Hp} {α : Type} {a : α} {S : Sto} : Hope X σ m H (R.ok a S) := ⟨fun z => (nomatch z), fun _ _ _ q => (nomatch q)⟩
theorem Hope.exc {X : Cx} {σ : L2.St} {m : List Addr} {H : Hp} {α β : Type} {C : Addr} {fs : List (Str × D)} {S : Sto} (h : Hope X σ m H (R.exc C fs S : R α)) : Hope X σ m H (R.exc C fs S : R β) :=
  ⟨fun z => (nomatch z), fun C' fs' S' q => by cases q; exact h.2 _ _ _ rfl⟩

structure PEL (X : Cx) (e : Expr) (l : LE) : Prop where
  run : ∀ (pins : List (Addr × Obj)) (s : Shared) (σ : L2.St) (H : Hp) (m : List Addr) (ρ : Ev) (S : Sto), Inv X pins σ H s → SR X.K m H S → ER X.K m H σ ρ → Hope X σ m H (l ρ S) →
    wpAny (model X.prog X.w) X.A (eval e X.env) (VPr X pins σ m H (l ρ S)) X.xe s
/-- a test -/
abbrev LT := Ev → Sto → R Bool
def TPr (X : Cx) (pins : List (Addr × Obj)) (σ : L2.St) (m : List Addr) (H : Hp) (r : R Bool) (b : Bool) (s' : Shared) : Prop :=
  ∃ S' H' m', r = .ok b S' ∧ Inv X pins σ H' s' ∧ Ext m H m' H' ∧ SR X.K m' H' S'
structure PTL (X : Cx) (e : Expr) (l : LT) : Prop where
  run : ∀ (pins : List (Addr × Obj)) (s : Shared) (σ : L2.St) (H : Hp) (m : List Addr) (ρ : Ev) (S : Sto), Inv X pins σ H s → SR X.K m H S → ER X.K m H σ ρ → Hope X σ m H (l ρ S) →
    wpAny (model X.prog X.w) X.A (isTrue e X.env (eval e X.env)) (TPr X pins σ m H (l ρ S)) X.xe s
/-- arguments -/
abbrev LA := Ev → Sto → R (List D)
def APr (X : Cx) (pins : List (Addr × Obj)) (σ : L2.St) (m : List Addr) (H : Hp) (r : R (List D)) (us : List Value) (s' : Shared) : Prop :=
  ∃ ds S' vs H' m', r = .ok ds S' ∧ Inv X pins σ H' s' ∧ Vals vs us ∧ Ext m H m' H' ∧ SR X.K m' H' S' ∧ VRs X.K m' H' vs ds
structure PAL (X : Cx) (es : List Expr) (l : LA) : Prop where
  run : ∀ (pos : Pos) (pins : List (Addr × Obj)) (s : Shared) (σ : L2.St) (H : Hp) (m : List Addr) (ρ : Ev) (S : Sto), Inv X pins σ H s → SR X.K m H S → ER X.K m H σ ρ → Hope X σ m H (l ρ S) →
    wpAny (model X.prog X.w) X.A (spliced (backTo pos (starEach es X.env))) (APr X pins σ m H (l ρ S)) X.xe s
end MP

namespace MP
open PySem PySem.Spec PyProof.Rows L2

section
variable {K : PySem.W.Frag} {m : List Addr} {H : Hp} {S : Sto} {p : Addr} {o : HO}
theorem SR.muts (x : SR K m H S) : ∀ a ∈ m, Mut (H a) := fun _ h => x.mut h
theorem SR.nin (x : SR K m H S) (h : H p = none) : p ∉ m := fun z => by
  have := x.mut z
  rw [h] at this; exact this
theorem Ext.fresh (h : H p = none) : Ext m H m (upd H p o) := ⟨⟨[], by simp⟩, fun a h => .inl h, fun a u _ e => by rw [upd_ne (ne_of_none e h)]; exact e⟩
theorem OR.ext {m' : List Addr} {H' : Hp} {a : Addr} {ob : O} (r : OR K m H a ob) (e : Ext m H m' H') (mu : ∀ a ∈ m, Mut (H a)) (h : H' a = H a) : OR K m' H' a ob := by
  cases r with
  | lst q r => exact .lst (h.trans q) (r.ext e mu)
  | dct q r => exact .dct (h.trans q) (r.ext e mu)
  | dctT q r => exact .dctT (h.trans q) (r.ext e mu)
  | ins q r => exact .ins (h.trans q) (r.ext e mu)
theorem SR.fresh (x : SR K m H S) (h : H p = none) : SR K m (upd H p o) S := ⟨x.nd, x.len, fun i a ob h1 h2 => (x.at_ i a ob h1 h2).ext (Ext.fresh h) x.muts (upd_ne fun z => x.nin h (z ▸ List.mem_iff_getElem?.mpr ⟨i, h1⟩))⟩

/-- what is wanted of a value and the heap behind, by the store -/
def QV (K : PySem.W.Frag) (m : List Addr) (H : Hp) (S' : Sto) (d : D) : VK := fun v H' => ∃ m', Ext m H m' H' ∧ SR K m' H' S' ∧ VR K m' H' v d
theorem qv_same (x : SR K m H S) {v : V} {d : D} (r : VR K m H v d) : QV K m H S d v H := ⟨m, Ext.refl, x, r⟩
theorem qv_new (x : SR K m H S) (h : H p = none) {v : V} {d : D} (r : VR K m (upd H p o) v d) : QV K m H S d v (upd H p o) := ⟨m, Ext.fresh h, x.fresh h, r⟩
theorem VRs.fresh (x : SR K m H S) (h : H p = none) {vs : List V} {ds : List D} (r : VRs K m H vs ds) : VRs K m (upd H p o) vs ds := r.ext (Ext.fresh h) x.muts
theorem VR.fresh (x : SR K m H S) (h : H p = none) {v : V} {d : D} (r : VR K m H v d) : VR K m (upd H p o) v d := r.ext (Ext.fresh h) x.muts
theorem vr_newTup (x : SR K m H S) (h : H p = none) {vs : List V} {ds : List D} (r : VRs K m H vs ds) : VR K m (upd H p (.tup vs)) (.ref p) (.tup ds) := .tup upd_same (r.fresh x h)
theorem vr_newLst (x : SR K m H S) (h : H p = none) {vs : List V} {ds : List D} (r : VRs K m H vs ds) : VR K m (upd H p (.lst vs)) (.ref p) (.lst ds) := .lst (x.nin h) (.inl upd_same) (r.fresh x h)
/-- a new object put into the store -/
theorem SR.snoc (x : SR K m H S) (h : H p = none) {ob : O} (r : ∀ m' H', Ext m H m' H' → H' p = some o → OR K m' H' p ob) : Ext m H (m ++ [p]) (upd H p o) ∧ SR K (m ++ [p]) (upd H p o) (S ++ [ob]) := by
  have e : Ext m H (m ++ [p]) (upd H p o) := ⟨⟨[p], rfl⟩, fun a ha => (List.mem_append.mp ha).imp id fun z => by
    rw [List.mem_singleton.mp z]; exact h, fun a u _ q => by rw [upd_ne (ne_of_none q h)]; exact q⟩
  refine ⟨e, List.nodup_append.mpr ⟨x.nd, by simp, fun a ha b hb z => ?_⟩, by simp [x.len], fun i a u h1 h2 => ?_⟩
  · rw [List.mem_singleton.mp hb] at z
    exact x.nin h (z ▸ ha)
  · by_cases hi : i < m.length
    · rw [List.getElem?_append_left hi] at h1
      rw [List.getElem?_append_left (x.len ▸ hi)] at h2
      exact (x.at_ i a u h1 h2).ext e x.muts (upd_ne fun z => x.nin h (z ▸ List.mem_iff_getElem?.mpr ⟨i, h1⟩))
    · have hl : i = m.length := by
        have := (List.getElem?_eq_some_iff.mp h1).1
        simp at this; omega
      subst hl
      rw [List.getElem?_append_right (Nat.le_refl _)] at h1
      rw [x.len, List.getElem?_append_right (Nat.le_refl _)] at h2
      simp at h1 h2
      subst h1 h2
      exact r _ _ e upd_same
theorem qv_newL (x : SR K m H S) (h : H p = none) {vs : List V} {ds : List D} (r : VRs K m H vs ds) : QV K m H (S ++ [.lst ds]) (.ref S.length) (.ref p) (upd H p (.lst vs)) := by
  obtain ⟨e, q⟩ := x.snoc (o := .lst vs) (ob := .lst ds) h fun m' H' e q => .lst q (r.ext e x.muts)
  exact ⟨_, e, q, .ref (by rw [← x.len]; simp)⟩
theorem VRs.length {vs : List V} {ds : List D} : VRs K m H vs ds → vs.length = ds.length
  | .nil => rfl
  | .cons _ r => by rw [List.length_cons, List.length_cons, r.length]
theorem VRs.append {vs ws : List V} {ds es : List D} : VRs K m H vs ds → VRs K m H ws es → VRs K m H (vs ++ ws) (ds ++ es)
  | .nil, s => s
  | .cons h r, s => .cons h (r.append s)
theorem VRs.take {vs : List V} {ds : List D} : ∀ (n : Nat), VRs K m H vs ds → VRs K m H (vs.take n) (ds.take n)
  | 0, _ => .nil
  | _ + 1, .nil => .nil
  | n + 1, .cons h r => .cons h (VRs.take n r)
theorem VRs.drop {vs : List V} {ds : List D} : ∀ (n : Nat), VRs K m H vs ds → VRs K m H (vs.drop n) (ds.drop n)
  | 0, r => r
  | _ + 1, .nil => .nil
  | n + 1, .cons h r => VRs.drop n r
theorem VRs.getr {vs : List V} {ds : List D} : ∀ {i : Nat} {d : D}, VRs K m H vs ds → ds[i]? = some d → ∃ v, vs[i]? = some v ∧ VR K m H v d
  | _, _, .nil, e => by simp at e
  | 0, _, .cons h _, e => by simp at e; subst e; exact ⟨_, rfl, h⟩
  | i + 1, d, .cons _ r, e => by
    obtain ⟨v, h1, h2⟩ := VRs.getr (i := i) (d := d) r (by simpa using e)
    exact ⟨v, by simpa using h1, h2⟩
theorem VRs.set {v : V} {d : D} (h : VR K m H v d) {vs : List V} {ds : List D} : ∀ (i : Nat), VRs K m H vs ds → VRs K m H (vs.set i v) (ds.set i d)
  | _, .nil => .nil
  | 0, .cons _ r => .cons h r
  | i + 1, .cons q r => .cons q (VRs.set h i r)
theorem VRs.eraseIdx {vs : List V} {ds : List D} : ∀ (i : Nat), VRs K m H vs ds → VRs K m H (vs.eraseIdx i) (ds.eraseIdx i)
  | _, .nil => .nil
  | 0, .cons _ r => r
  | i + 1, .cons q r => .cons q (VRs.eraseIdx i r)
theorem VRs.of_ints {ns : List Int} : VRs K m H (ns.map V.int) (ns.map D.int) := by
  induction ns with
  | nil => exact .nil
  | cons n ns ih => exact .cons (.int n) ih
theorem VRs.of_strs {ns : List Str} : VRs K m H (ns.map V.str) (ns.map D.str) := by
  induction ns with
  | nil => exact .nil
  | cons n ns ih => exact .cons (.str n) ih
end

/-- an object of the store as it stands -/
def vw (S : Sto) : D → D
  | .ref i => match S[i]? with
    | some (.lst xs) => .lst xs
    | some (.dct t kvs) => .dct t kvs
    | some (.ins C fs) => .obj C fs
    | none => .ref i
  | d => d
section
variable {K : PySem.W.Frag} {m : List Addr} {H : Hp} {S : Sto}
theorem vw_lst (x : SR K m H S) {v : V} {d : D} {xs : List D} (r : VR K m H v d) (e : vw S d = .lst xs) : ∃ a vs, v = .ref a ∧ SqL K H a vs ∧ VRs K m H vs xs := by
  cases r with
  | @lst a vs ds n h r => cases e; exact ⟨a, vs, rfl, .inl h, r⟩
  | @lstK a vs ds ob its n hk h1 h2 h3 h4 h5 r => cases e; exact ⟨a, vs, rfl, .inr ⟨ob, its, n, hk, h1, h2, h3, h4, h5⟩, r⟩
  | @ref i a h =>
    dsimp only [vw] at e
    cases q : S[i]? with
    | none => rw [q] at e; cases e
    | some ob =>
      have z := x.at_ i a ob h q
      rw [q] at e
      cases z with
      | lst h r => cases e; exact ⟨a, _, rfl, SqL.of h, r⟩
      | dct _ _ => cases e
      | dctT _ _ => cases e
      | ins _ _ => cases e
  | _ => cases e
theorem vw_tup {v : V} {d : D} {xs : List D} (r : VR K m H v d) (e : vw S d = .tup xs) : ∃ a vs, v = .ref a ∧ H a = some (.tup vs) ∧ VRs K m H vs xs := by
  cases r with
  | @tup a vs ds h r => cases e; exact ⟨a, vs, rfl, h, r⟩
  | @ref i a h =>
    dsimp only [vw] at e
    cases q : S[i]? with
    | none => rw [q] at e; cases e
    | some ob => rw [q] at e; cases ob <;> cases e
  | _ => cases e
theorem vw_ftup {v : V} {d : D} {xs : List D} (r : VR K m H v d) (e : vw S d = .ftup xs) : ∃ a vs, ∃ o : Obj, v = .ref a ∧ o.dict = none ∧ H a = some (.frz o (.tup vs)) ∧ VRs K m H vs xs := by
  cases r with
  | @ftup a vs ds o hd h r => cases e; exact ⟨a, vs, o, rfl, hd, h, r⟩
  | @ref i a h =>
    dsimp only [vw] at e
    cases q : S[i]? with
    | none => rw [q] at e; cases e
    | some ob => rw [q] at e; cases ob <;> cases e
  | _ => cases e
theorem vw_int {v : V} {d : D} {i : Int} (r : VR K m H v d) (e : vw S d = .int i) : v = .int i := by
  cases r with
  | int j => cases e; rfl
  | @ref i a h =>
    dsimp only [vw] at e
    cases q : S[i]? with
    | none => rw [q] at e; cases e
    | some ob => rw [q] at e; cases ob <;> cases e
  | _ => cases e
theorem vw_str {v : V} {d : D} {i : Str} (r : VR K m H v d) (e : vw S d = .str i) : v = .str i := by
  cases r with
  | str j => cases e; rfl
  | @ref i a h =>
    dsimp only [vw] at e
    cases q : S[i]? with
    | none => rw [q] at e; cases e
    | some ob => rw [q] at e; cases ob <;> cases e
  | _ => cases e
theorem vw_bl {v : V} {d : D} {i : Bool} (r : VR K m H v d) (e : vw S d = .bl i) : v = .bl i := by
  cases r with
  | bl j => cases e; rfl
  | @ref i a h =>
    dsimp only [vw] at e
    cases q : S[i]? with
    | none => rw [q] at e; cases e
    | some ob => rw [q] at e; cases ob <;> cases e
  | _ => cases e
theorem vw_obj (x : SR K m H S) {v : V} {d : D} {C : Addr} {gs : List (Str × D)} (r : VR K m H v d) (e : vw S d = .obj C gs) : ∃ a dx fs, v = .ref a ∧ H a = some (.ins C dx fs) ∧ VFs K m H fs gs := by
  cases r with
  | @obj a C dx fs gs n h r => cases e; exact ⟨a, dx, fs, rfl, h, r⟩
  | @ref i a h =>
    dsimp only [vw] at e
    cases q : S[i]? with
    | none => rw [q] at e; cases e
    | some ob =>
      have z := x.at_ i a ob h q
      rw [q] at e
      cases z with
      | ins h r => cases e; exact ⟨a, _, _, rfl, h, r⟩
      | dct _ _ => cases e
      | dctT _ _ => cases e
      | lst _ _ => cases e
  | _ => cases e
end

/-! ### rules by values -/
abbrev G2 := Sto → D → D → Option D
/-- an operation on two values; the store stays -/
structure OpL (X : Cx) (f : Value → Value → Sem Value) (g : G2) : Prop where
  run : ∀ (pins : List (Addr × Obj)) (s : Shared) (σ : L2.St) (H : Hp) (m : List Addr) (S : Sto) (x y : V) (dx dy d : D) (v u : Value), Inv X pins σ H s → SR X.K m H S → VR X.K m H x dx → VR X.K m H y dy → RelV x v → RelV y u → g S dx dy = some d →
    wpAny (model X.prog X.w) X.A (f v u) (VP X pins σ m H d S) X.xe s
theorem vp_of {X : Cx} {pins : List (Addr × Obj)} {σ : L2.St} {m : List Addr} {H : Hp} {S : Sto} {d : D} {u : Value} {s' : Shared} (h : EP X pins σ (QV X.K m H S d) u s') : VP X pins σ m H d S u s' := by
  obtain ⟨v, H', I, r, m', e, q, w⟩ := h
  exact ⟨v, H', m', I, r, e, q, w⟩
theorem OpL.of {X : Cx} {f : Value → Value → Sem Value} {r : R2} {g : G2} (h : OpR X f r)
    (hg : ∀ (H : Hp) (m : List Addr) (S : Sto) (x y : V) (dx dy d : D), SR X.K m H S → VR X.K m H x dx → VR X.K m H y dy → g S dx dy = some d → r x y H (QV X.K m H S d)) : OpL X f g :=
  ⟨fun pins s σ H m S x y dx dy d v u I q rx ry ex ey e => thn (h pins s σ H x y v u _ I ex ey (hg H m S x y dx dy d q rx ry e)) fun _ _ z => vp_of z⟩
theorem OpL.or {X : Cx} {f : Value → Value → Sem Value} {g g' : G2} (h : OpL X f g) (h' : OpL X f g') : OpL X f (fun S x y => (g S x y).or (g' S x y)) :=
  ⟨fun pins s σ H m S x y dx dy d v u I q rx ry ex ey e => by
    cases z : g S dx dy with
    | some d' =>
      rw [z] at e
      cases e
      exact h.run pins s σ H m S x y dx dy _ v u I q rx ry ex ey z
    | none =>
      rw [z] at e
      exact h'.run pins s σ H m S x y dx dy _ v u I q rx ry ex ey e⟩

def g2I (f : Int → Int → Option D) : G2 := fun S x y => match vw S x, vw S y with
  | .int i, .int j => f i j
  | _, _ => none
def g2S (f : Str → Str → Option D) : G2 := fun S x y => match vw S x, vw S y with
  | .str i, .str j => f i j
  | _, _ => none
def g2T (f : List D → List D → Option D) : G2 := fun S x y => match vw S x, vw S y with
  | .tup i, .tup j => f i j
  | _, _ => none
def g2L (f : List D → List D → Option D) : G2 := fun S x y => match vw S x, vw S y with
  | .lst i, .lst j => f i j
  | _, _ => none
theorem g2I_inv {f : Int → Int → Option D} {S : Sto} {x y d : D} (h : g2I f S x y = some d) : ∃ i j, vw S x = .int i ∧ vw S y = .int j ∧ f i j = some d := by
  unfold g2I at h
  split at h
  · exact ⟨_, _, ‹_›, ‹_›, h⟩
  · cases h
theorem g2S_inv {f : Str → Str → Option D} {S : Sto} {x y d : D} (h : g2S f S x y = some d) : ∃ i j, vw S x = .str i ∧ vw S y = .str j ∧ f i j = some d := by
  unfold g2S at h
  split at h
  · exact ⟨_, _, ‹_›, ‹_›, h⟩
  · cases h
theorem g2T_inv {f : List D → List D → Option D} {S : Sto} {x y d : D} (h : g2T f S x y = some d) : ∃ i j, vw S x = .tup i ∧ vw S y = .tup j ∧ f i j = some d := by
  unfold g2T at h
  split at h
  · exact ⟨_, _, ‹_›, ‹_›, h⟩
  · cases h
theorem g2L_inv {f : List D → List D → Option D} {S : Sto} {x y d : D} (h : g2L f S x y = some d) : ∃ i j, vw S x = .lst i ∧ vw S y = .lst j ∧ f i j = some d := by
  unfold g2L at h
  split at h
  · exact ⟨_, _, ‹_›, ‹_›, h⟩
  · cases h
section
variable {X : Cx}
/-- ints, under a condition -/
theorem opl_int {f : Value → Value → Sem Value} {C : Int → Int → Prop} {g : Int → Int → V} {g' : Int → Int → Option D} (h : OpR X f (rI C g)) (hg : ∀ i j d, g' i j = some d → C i j ∧ ∀ K m H, VR K m H (g i j) d) : OpL X f (g2I g') :=
  .of h fun H m S x y dx dy d q rx ry e => by
    obtain ⟨i, j, e1, e2, e3⟩ := g2I_inv e
    obtain ⟨c, z⟩ := hg i j d e3
    exact ⟨i, j, vw_int rx e1, vw_int ry e2, c, qv_same q (z _ _ _)⟩
theorem opl_int0 {f : Value → Value → Sem Value} {g : Int → Int → V} {g' : Int → Int → D} (h : OpR X f (rI0 g)) (hg : ∀ i j K m H, VR K m H (g i j) (g' i j)) : OpL X f (g2I fun i j => some (g' i j)) :=
  .of h fun H m S x y dx dy d q rx ry e => by
    obtain ⟨i, j, e1, e2, e3⟩ := g2I_inv e
    cases e3
    exact ⟨i, j, vw_int rx e1, vw_int ry e2, qv_same q (hg _ _ _ _ _)⟩

def gCat : G2 := g2T fun a b => if a.length + b.length ≤ sizeLine then some (.tup (a ++ b)) else none
def gCatL : G2 := g2L fun a b => if a.length + b.length ≤ sizeLine then some (.lst (a ++ b)) else none
def gAddI : G2 := g2I fun i j => some (.int (i + j))
def gAddS : G2 := g2S fun a b => if a.length + b.length ≤ sizeLine then some (.str (a ++ b)) else none
theorem opl_addI : OpL X (binaryOp .Add) gAddI := opl_int0 op_add fun i j _ _ _ => .int _
theorem opl_addS : OpL X (binaryOp .Add) gAddS := .of op_add_str fun H m S x y dx dy d q rx ry e => by
  obtain ⟨i, j, e1, e2, e3⟩ := g2S_inv e
  split at e3
  · cases e3
    exact ⟨i, j, vw_str rx e1, vw_str ry e2, ‹_›, qv_same q (.str _)⟩
  · cases e3
theorem VRs.nil_iff {K : PySem.W.Frag} {m : List Addr} {H : Hp} {vs : List V} {ds : List D} (r : VRs K m H vs ds) : vs = [] ↔ ds = [] := by
  cases r <;> simp
theorem opl_catT : OpL X (binaryOp .Add) gCat := .of op_catA fun H m S x y dx dy d q rx ry e => by
  obtain ⟨i, j, e1, e2, e3⟩ := g2T_inv e
  split at e3
  · cases e3
    obtain ⟨a, xs, rfl, ha, r1⟩ := vw_tup rx e1
    obtain ⟨b, ys, rfl, hb, r2⟩ := vw_tup ry e2
    refine ⟨a, b, xs, ys, rfl, rfl, SqT.of ha, SqT.of hb, by rw [r1.length, r2.length]; assumption, ?_⟩
    refine ⟨fun z => ?_, fun z z' => ?_, fun z z' p hp => ?_⟩
    · have z1 := r1.nil_iff.mp z
      subst z1
      exact qv_same q (.tup hb (by simpa using r2))
    · have z1 := r2.nil_iff.mp z'
      subst z1
      exact qv_same q (.tup ha (by simpa using r1))
    · exact qv_new q hp (vr_newTup q hp (r1.append r2))
  · cases e3
end
end MP

namespace MP
open PySem PySem.Spec PyProof.Rows L2

section
variable {X : Cx} {pins : List (Addr × Obj)} {σ : L2.St} {m m1 : List Addr} {H H1 : Hp} {ρ : Ev} {S S1 : Sto} {s : Shared}
theorem VPr.left {r : R D} {u : Value} {s' : Shared} (e : Ext m H m1 H1) (h : VPr X pins σ m1 H1 r u s') : VPr X pins σ m H r u s' := by
  obtain ⟨d, S', q, v, H', m', I, rv, e', x, w⟩ := h
  exact ⟨d, S', q, v, H', m', I, rv, e.trans e', x, w⟩
theorem TPr.left {r : R Bool} {u : Bool} {s' : Shared} (e : Ext m H m1 H1) (h : TPr X pins σ m1 H1 r u s') : TPr X pins σ m H r u s' := by
  obtain ⟨S', H', m', q, I, e', x⟩ := h
  exact ⟨S', H', m', q, I, e.trans e', x⟩
theorem APr.left {r : R (List D)} {u : List Value} {s' : Shared} (e : Ext m H m1 H1) (h : APr X pins σ m1 H1 r u s') : APr X pins σ m H r u s' := by
  obtain ⟨ds, S', vs, H', m', q, I, rv, e', x, w⟩ := h
  exact ⟨ds, S', vs, H', m', q, I, rv, e.trans e', x, w⟩
theorem vpr_of {d : D} {S' : Sto} {u : Value} {s' : Shared} (h : VP X pins σ m H d S' u s') : VPr X pins σ m H (.ok d S') u s' := ⟨d, S', rfl, h⟩

/-- an expression, then what goes on -/
theorem run_seq {α : Type} {e : Expr} {l : LE} (h : PEL X e l) (I : Inv X pins σ H s) (x : SR X.K m H S) (r : ER X.K m H σ ρ) {f : D → Sto → R α} (hp : Hope X σ m H ((l ρ S).bind f)) {Q : Value → Shared → Prop}
    (k : ∀ d S1, l ρ S = .ok d S1 → ∀ v u s1 H1 m1, Inv X pins σ H1 s1 → RelV v u → Ext m H m1 H1 → SR X.K m1 H1 S1 → VR X.K m1 H1 v d → ER X.K m1 H1 σ ρ → Hope X σ m1 H1 (f d S1) → Q u s1) :
    wpAny (model X.prog X.w) X.A (eval e X.env) Q X.xe s := by
  cases q : l ρ S with
  | bad => rw [q] at hp; exact absurd rfl hp.1
  | exc C fs S' =>
    rw [q] at hp
    have z := h.run pins s σ H m ρ S I x r (by rw [q]; exact hp.exc)
    rw [q] at z
    exact thn z fun u s' ⟨d, S2, e, _⟩ => nomatch e
  | ok d S1 =>
    rw [q] at hp
    have z := h.run pins s σ H m ρ S I x r (by rw [q]; exact Hope.ok)
    rw [q] at z
    refine thn z fun u s1 ⟨d', S2, e, v, H1, m1, I1, rv, ex, x1, w⟩ => ?_
    cases e
    exact k d S1 q v u s1 H1 m1 I1 rv ex x1 w (r.ext ex x.muts) (Hope.ext hp ex)
theorem run_seqT {α : Type} {e : Expr} {l : LT} (h : PTL X e l) (I : Inv X pins σ H s) (x : SR X.K m H S) (r : ER X.K m H σ ρ) {f : Bool → Sto → R α} (hp : Hope X σ m H ((l ρ S).bind f)) {Q : Bool → Shared → Prop}
    (k : ∀ b S1, l ρ S = .ok b S1 → ∀ s1 H1 m1, Inv X pins σ H1 s1 → Ext m H m1 H1 → SR X.K m1 H1 S1 → ER X.K m1 H1 σ ρ → Hope X σ m1 H1 (f b S1) → Q b s1) :
    wpAny (model X.prog X.w) X.A (isTrue e X.env (eval e X.env)) Q X.xe s := by
  cases q : l ρ S with
  | bad => rw [q] at hp; exact absurd rfl hp.1
  | exc C fs S' =>
    rw [q] at hp
    have z := h.run pins s σ H m ρ S I x r (by rw [q]; exact hp.exc)
    rw [q] at z
    exact thn z fun u s' ⟨S2, H', m', e, _⟩ => nomatch e
  | ok d S1 =>
    rw [q] at hp
    have z := h.run pins s σ H m ρ S I x r (by rw [q]; exact Hope.ok)
    rw [q] at z
    refine thn z fun u s1 ⟨S2, H1, m1, e, I1, ex, x1⟩ => ?_
    cases e
    exact k d S1 q s1 H1 m1 I1 ex x1 (r.ext ex x.muts) (Hope.ext hp ex)
theorem run_seqA {α : Type} {es : List Expr} {l : LA} {pos : Pos} (h : PAL X es l) (I : Inv X pins σ H s) (x : SR X.K m H S) (r : ER X.K m H σ ρ) {f : List D → Sto → R α} (hp : Hope X σ m H ((l ρ S).bind f)) {Q : List Value → Shared → Prop}
    (k : ∀ ds S1, l ρ S = .ok ds S1 → ∀ vs us s1 H1 m1, Inv X pins σ H1 s1 → Vals vs us → Ext m H m1 H1 → SR X.K m1 H1 S1 → VRs X.K m1 H1 vs ds → ER X.K m1 H1 σ ρ → Hope X σ m1 H1 (f ds S1) → Q us s1) :
    wpAny (model X.prog X.w) X.A (spliced (backTo pos (starEach es X.env))) Q X.xe s := by
  cases q : l ρ S with
  | bad => rw [q] at hp; exact absurd rfl hp.1
  | exc C fs S' =>
    rw [q] at hp
    have z := h.run pos pins s σ H m ρ S I x r (by rw [q]; exact hp.exc)
    rw [q] at z
    exact thn z fun u s' ⟨ds, S2, vs, H', m', e, _⟩ => nomatch e
  | ok d S1 =>
    rw [q] at hp
    have z := h.run pos pins s σ H m ρ S I x r (by rw [q]; exact Hope.ok)
    rw [q] at z
    refine thn z fun u s1 ⟨ds, S2, vs, H1, m1, e, I1, rv, ex, x1, w⟩ => ?_
    cases e
    exact k d S1 q vs u s1 H1 m1 I1 rv ex x1 w (r.ext ex x.muts) (Hope.ext hp ex)
end

section
variable {X : Cx} {a b c e : Expr} {la lb lc l : LE} {pos : Pos}
def lVar (i : Nat) : LE := fun ρ S => match ρ[i]? with
  | some (some d) => .ok d S
  | _ => .bad
theorem pel_var {i : Nat} {x : Str} (hN : X.N[i]? = some x := by rfl) (hv : Vis X.env.scope x := by first | exact Or.inl rfl | exact Or.inr (Or.inl rfl) | exact Or.inr (Or.inr rfl)) (hd : (x == ("__debug__" : Str)) = false := by decide) (hcd : (x == ("__classdict__" : Str)) = false := by decide) :
    PEL X (.Name x pos) (lVar i) := by
  refine ⟨fun pins s σ H m ρ S I x r hp => ?_⟩
  unfold lVar at hp ⊢
  split at hp
  · rename_i d e
    obtain ⟨v, h1, h2⟩ := r.at_ i d e
    exact thn ((pe_var hN hv hd hcd).run pins s σ H (QV X.K m H S d) I ⟨v, h1, qv_same x h2⟩) fun u s' q => vpr_of (vp_of q)
  · exact absurd rfl hp.1
/-- an expression of the layer whose value is known -/
def lC (d : D) : LE := fun _ S => .ok d S
theorem pel_c {v : V} {d : D} (h : PE X e (tC v)) (hv : ∀ K m H, VR K m H v d) : PEL X e (lC d) :=
  ⟨fun pins s σ H m ρ S I x r hp => thn (h.run pins s σ H (QV X.K m H S d) I (qv_same x (hv _ _ _))) fun u s' q => vpr_of (vp_of q)⟩
theorem pel_int {i : Int} {j : Nat} : PEL X (.Constant (.int i) j pos) (lC (.int i)) := pel_c pe_int fun _ _ _ => .int i
theorem pel_bl {i : Bool} {j : Nat} : PEL X (.Constant (.bool i) j pos) (lC (.bl i)) := pel_c pe_bl fun _ _ _ => .bl i
theorem pel_non {j : Nat} : PEL X (.Constant .none j pos) (lC .non) := pel_c pe_non fun _ _ _ => .non
theorem pel_str {i : Str} {j : Nat} : PEL X (.Constant (.str i) j pos) (lC (.str i)) := pel_c pe_str fun _ _ _ => .str i
/-- a module's constant -/
theorem pel_gint {x : Str} {i : Int} {t : Tok} (hg : Gl X x) (hm : X.mg x = some (.int i t)) (hd : (x == ("__debug__" : Str)) = false := by decide) : PEL X (.Name x pos) (lC (.int i)) := pel_c (pe_glob hg hm (v := .int i) ⟨_, rfl⟩ hd) fun _ _ _ => .int i
theorem pel_gstr {x i : Str} {t : Tok} (hg : Gl X x) (hm : X.mg x = some (.str i t)) (hd : (x == ("__debug__" : Str)) = false := by decide) : PEL X (.Name x pos) (lC (.str i)) := pel_c (pe_glob hg hm (v := .str i) ⟨_, rfl⟩ hd) fun _ _ _ => .str i

def lift1 (o : Option D) (S : Sto) : R D := match o with
  | some d => .ok d S
  | none => .bad
def lBin (g : G2) (la lb : LE) : LE := fun ρ S => (la ρ S).bind fun x S1 => (lb ρ S1).bind fun y S2 => lift1 (g S2 x y) S2
theorem lift_ok {o : Option D} {S : Sto} {X : Cx} {σ : L2.St} {m : List Addr} {H : Hp} (h : Hope X σ m H (lift1 o S)) : ∃ d, o = some d := by
  cases o with
  | none => exact absurd rfl h.1
  | some d => exact ⟨d, rfl⟩
theorem run_bin {g : G2} {f : Value → Value → Sem Value} (ha : PEL X a la) (hb : PEL X b lb) (ho : OpL X f g) {pins : List (Addr × Obj)} {s : Shared} {σ : L2.St} {H : Hp} {m : List Addr} {ρ : Ev} {S : Sto} (I : Inv X pins σ H s) (x : SR X.K m H S) (r : ER X.K m H σ ρ) (hp : Hope X σ m H (lBin g la lb ρ S)) :
    wpAny (model X.prog X.w) X.A (eval a X.env) (fun v s₁ => wpAny (model X.prog X.w) X.A (eval b X.env) (fun u s₂ => wpAny (model X.prog X.w) X.A (f v u) (VPr X pins σ m H (lBin g la lb ρ S)) X.xe s₂) X.xe s₁) X.xe s := by
  refine run_seq ha I x r hp fun dx S1 q1 v u s1 H1 m1 I1 rv e1 x1 w1 r1 hp1 => ?_
  refine run_seq hb I1 x1 r1 hp1 fun dy S2 q2 v2 u2 s2 H2 m2 I2 rv2 e2 x2 w2 r2 hp2 => ?_
  obtain ⟨d, q3⟩ := lift_ok hp2
  have e : lBin g la lb ρ S = .ok d S2 := by
    unfold lBin; rw [q1, bind_ok, q2, bind_ok, q3]; rfl
  rw [e]
  exact thn (ho.run pins s2 σ H2 m2 S2 v v2 dx dy d u u2 I2 x2 (w1.ext e2 x1.muts) w2 rv rv2 q3) fun _ _ z => (vpr_of z).left (e1.trans e2)
theorem pel_op {op : Operator} {g : G2} (ho : OpL X (binaryOp op) g) (ha : PEL X a la) (hb : PEL X b lb) : PEL X (.BinOp a op b pos) (lBin g la lb) :=
  ⟨fun pins s σ H m ρ S I x r hp => wpAny_BinOp (run_bin ha hb ho I x r hp)⟩
theorem pel_cmp {op : CmpOp} {g : G2} (ho : OpL X (compareOp op) g) (ha : PEL X a la) (hb : PEL X b lb) (hm : behindInMarks op b = false := by first | exact nobehind _ (by decide) (by decide) | rfl) : PEL X (.Compare a [op] [b] pos) (lBin g la lb) :=
  ⟨fun pins s σ H m ρ S I x r hp => wpAny_Compare1 (run_bin ha hb ho I x r hp) hm⟩
/-- a one-place operation -/
structure UnL (X : Cx) (f : Value → Sem Value) (g : Sto → D → Option D) : Prop where
  run : ∀ (pins : List (Addr × Obj)) (s : Shared) (σ : L2.St) (H : Hp) (m : List Addr) (S : Sto) (x : V) (dx d : D) (v : Value), Inv X pins σ H s → SR X.K m H S → VR X.K m H x dx → RelV x v → g S dx = some d →
    wpAny (model X.prog X.w) X.A (f v) (VP X pins σ m H d S) X.xe s
def lUn (g : Sto → D → Option D) (la : LE) : LE := fun ρ S => (la ρ S).bind fun x S1 => lift1 (g S1 x) S1
def gNeg (S : Sto) : D → Option D
  | .int i => some (.int (-i))
  | _ => none
/-! ### tests -/
/-- truth of a value -/
def truth (S : Sto) (d : D) : Option Bool := match vw S d with
  | .non => some false
  | .bl b => some b
  | .int i => some (i != 0)
  | .str s => if s.length ≤ sizeLine then some ((s.length : Int) != 0) else none
  | .tup xs => some (!xs.isEmpty)
  | .lst xs => some (!xs.isEmpty)
  | .ftup xs => some (!xs.isEmpty)
  | _ => none
theorem tru_of {K : PySem.W.Frag} {m : List Addr} {H : Hp} {S : Sto} {v : V} {d : D} {k : Bool} (x : SR K m H S) (r : VR K m H v d) (h : truth S d = some k) : TruV K v H k := by
  unfold truth at h
  split at h
  · rename_i e
    have : v = .non := by
      cases r with
      | non => rfl
      | @ref i a h' =>
        dsimp only [vw] at e
        cases q : S[i]? with
        | none => rw [q] at e; cases e
        | some ob => rw [q] at e; cases ob <;> cases e
      | _ => cases e
    subst this; cases h; rfl
  · rename_i b e
    rw [vw_bl r e]; cases h; rfl
  · rename_i b e
    rw [vw_int r e]; cases h; rfl
  · rename_i b e
    rw [vw_str r e]
    split at h
    · cases h; exact ⟨‹_›, rfl⟩
    · cases h
  · rename_i b e
    obtain ⟨a, vs, rfl, h1, h2⟩ := vw_tup r e
    cases h
    exact .inr (.inl ⟨vs, SqT.of h1, by cases h2 <;> rfl⟩)
  · rename_i b e
    obtain ⟨a, vs, rfl, h1, h2⟩ := vw_lst x r e
    cases h
    exact .inl ⟨vs, h1, by cases h2 <;> rfl⟩
  · rename_i b e
    obtain ⟨a, vs, o, rfl, _, h1, h2⟩ := vw_ftup r e
    cases h
    exact .inr (.inl ⟨vs, SqT.rd (.inr ⟨o, h1⟩), by cases h2 <;> rfl⟩)
  · cases h
def liftB (o : Option Bool) (S : Sto) : R Bool := match o with
  | some d => .ok d S
  | none => .bad
def tTru (l : LE) : LT := fun ρ S => (l ρ S).bind fun d S1 => liftB (truth S1 d) S1
theorem liftB_ok {o : Option Bool} {S : Sto} {X : Cx} {σ : L2.St} {m : List Addr} {H : Hp} (h : Hope X σ m H (liftB o S)) : ∃ d, o = some d := by
  cases o with
  | none => exact absurd rfl h.1
  | some d => exact ⟨d, rfl⟩
theorem tru_run {pins : List (Addr × Obj)} {s s1 : Shared} {σ : L2.St} {H H1 : Hp} {m m1 : List Addr} {ρ : Ev} {S S1 : Sto} {d : D} {v : V} {u : Value} (q1 : l ρ S = .ok d S1) (I1 : Inv X pins σ H1 s1) (rv : RelV v u) (e1 : Ext m H m1 H1) (x1 : SR X.K m1 H1 S1) (w1 : VR X.K m1 H1 v d) (hp1 : Hope X σ m1 H1 (liftB (truth S1 d) S1)) :
    wpAny (model X.prog X.w) X.A (truthy u) (TPr X pins σ m H (tTru l ρ S)) X.xe s1 := by
  obtain ⟨b, q3⟩ := liftB_ok hp1
  have e : tTru l ρ S = .ok b S1 := by
    unfold tTru; rw [q1, bind_ok, q3]; rfl
  rw [e]
  refine thn (tru_ok pins s1 σ H1 v u (fun c H' => c = b ∧ H' = H1) I1 rv ⟨b, tru_of x1 w1 q3, rfl, rfl⟩) fun c s2 ⟨H2, I2, ec, eh⟩ => ?_
  subst ec eh
  exact ⟨S1, H2, m1, rfl, I2, e1, x1⟩
theorem ptl_truth (ha : PEL X a l) (he : ∀ whole, isTrue a X.env whole = (do let v ← whole; standAt a.pos; holding [v] (truthy v)) := by intro _; rfl) : PTL X a (tTru l) :=
  ⟨fun pins s σ H m ρ S I x r hp => isTrue_plain (run_seq ha I x r hp fun d S1 q1 v u s1 H1 m1 I1 rv e1 x1 w1 r1 hp1 => tru_run (s := s) q1 I1 rv e1 x1 w1 hp1) (he _)⟩
theorem ptl_cmp {op : CmpOp} {g : G2} (ho : OpL X (compareOp op) g) (ha : PEL X a la) (hb : PEL X b lb) (hm : behindInMarks op b = false := by first | exact nobehind _ (by decide) (by decide) | rfl) : PTL X (.Compare a [op] [b] pos) (tTru (lBin g la lb)) := by
  refine ⟨fun pins s σ H m ρ S I x r hp => ?_⟩
  have hp0 : Hope X σ m H (lBin g la lb ρ S) := by
    unfold tTru at hp
    cases q : lBin g la lb ρ S with
    | bad => rw [q] at hp; exact absurd rfl hp.1
    | exc C fs S' => rw [q] at hp; exact hp.exc
    | ok d S1 => exact Hope.ok
  refine wpAny_isTrue_Compare1 (thn (run_bin ha hb ho I x r hp0) fun v s1 h1 => thn h1 fun u s2 h2 => thn h2 fun w s3 ⟨d, S3, q, v3, H3, m3, I3, rv, e3, x3, w3⟩ => ?_) hm
  refine tru_run (s := s) q I3 rv e3 x3 w3 ?_
  unfold tTru at hp
  rw [q, bind_ok] at hp
  exact hp.ext e3
/-- and, or, not in tests -/
structure PWL (X : Cx) (e : Expr) (l : LT) : Prop where
  run : ∀ (whole : Sem Value) (pins : List (Addr × Obj)) (s : Shared) (σ : L2.St) (H : Hp) (m : List Addr) (ρ : Ev) (S : Sto), Inv X pins σ H s → SR X.K m H S → ER X.K m H σ ρ → Hope X σ m H (l ρ S) →
    wpAny (model X.prog X.w) X.A (isTrue e X.env whole) (TPr X pins σ m H (l ρ S)) X.xe s
theorem PWL.pt {l : LT} (h : PWL X e l) : PTL X e l := ⟨h.run _⟩
variable {ta tb tc : LT} {rest : List Expr}
def tAnd (ta tb : LT) : LT := fun ρ S => (ta ρ S).bind fun b S1 => if b = true then tb ρ S1 else .ok false S1
def tOr (ta tb : LT) : LT := fun ρ S => (ta ρ S).bind fun b S1 => if b = true then .ok true S1 else tb ρ S1
def tNot (ta : LT) : LT := fun ρ S => (ta ρ S).bind fun b S1 => .ok (!b) S1
theorem tpr_ok {pins : List (Addr × Obj)} {σ : L2.St} {H H1 : Hp} {m m1 : List Addr} {S1 : Sto} {b : Bool} {s1 : Shared} {r : R Bool} (I1 : Inv X pins σ H1 s1) (e1 : Ext m H m1 H1) (x1 : SR X.K m1 H1 S1) (q : r = .ok b S1) : TPr X pins σ m H r b s1 := ⟨S1, H1, m1, q, I1, e1, x1⟩
theorem pwl_and1 (ha : PTL X a ta) : PWL X (.BoolOp .And [a] pos) ta := by
  refine ⟨fun wh pins s σ H m ρ S I x r hp => ?_⟩
  refine isTrue_and (thn (ha.run pins s σ H m ρ S I x r hp) fun c s1 e => ?_)
  cases c with
  | true => exact isTrue_and_nil e
  | false => exact e
theorem pwl_or1 (ha : PTL X a ta) : PWL X (.BoolOp .Or [a] pos) ta := by
  refine ⟨fun wh pins s σ H m ρ S I x r hp => ?_⟩
  refine isTrue_or (thn (ha.run pins s σ H m ρ S I x r hp) fun c s1 e => ?_)
  cases c with
  | false => exact isTrue_or_nil e
  | true => exact e
theorem pwl_and (ha : PTL X a ta) (hb : PWL X (.BoolOp .And (b :: rest) pos) tb) : PWL X (.BoolOp .And (a :: b :: rest) pos) (tAnd ta tb) := by
  refine ⟨fun wh pins s σ H m ρ S I x r hp => ?_⟩
  refine isTrue_and (run_seqT ha I x r hp fun c S1 q1 s1 H1 m1 I1 e1 x1 r1 hp1 => ?_)
  cases c with
  | true =>
    have e : tAnd ta tb ρ S = tb ρ S1 := by unfold tAnd; rw [q1]; rfl
    rw [e]
    exact thn (hb.run wh pins s1 σ H1 m1 ρ S1 I1 x1 r1 hp1) fun _ _ z => z.left e1
  | false => exact tpr_ok I1 e1 x1 (by unfold tAnd; rw [q1]; rfl)
theorem pwl_or (ha : PTL X a ta) (hb : PWL X (.BoolOp .Or (b :: rest) pos) tb) : PWL X (.BoolOp .Or (a :: b :: rest) pos) (tOr ta tb) := by
  refine ⟨fun wh pins s σ H m ρ S I x r hp => ?_⟩
  refine isTrue_or (run_seqT ha I x r hp fun c S1 q1 s1 H1 m1 I1 e1 x1 r1 hp1 => ?_)
  cases c with
  | false =>
    have e : tOr ta tb ρ S = tb ρ S1 := by unfold tOr; rw [q1]; rfl
    rw [e]
    exact thn (hb.run wh pins s1 σ H1 m1 ρ S1 I1 x1 r1 hp1) fun _ _ z => z.left e1
  | true => exact tpr_ok I1 e1 x1 (by unfold tOr; rw [q1]; rfl)
theorem ptl_not (ha : PTL X a ta) : PTL X (.UnaryOp .Not a pos) (tNot ta) := by
  refine ⟨fun pins s σ H m ρ S I x r hp => ?_⟩
  refine isTrue_not (run_seqT ha I x r hp fun c S1 q1 s1 H1 m1 I1 e1 x1 r1 hp1 => ?_)
  exact tpr_ok I1 e1 x1 (by unfold tNot; rw [q1, bind_ok])
end
end MP

namespace MP
open PySem PySem.Spec PyProof.Rows L2

section
variable {X : Cx} {a b c e o : Expr} {la lb lc l lo : LE} {pos : Pos} {es rest : List Expr} {t : LA} {tc : LT}
/-! ### and, or, not, if .. else as values -/
def lAndV (la lb : LE) : LE := fun ρ S => (la ρ S).bind fun d S1 => (liftB (truth S1 d) S1).bind fun k S2 => if k = true then lb ρ S2 else .ok d S2
def lOrV (la lb : LE) : LE := fun ρ S => (la ρ S).bind fun d S1 => (liftB (truth S1 d) S1).bind fun k S2 => if k = true then .ok d S2 else lb ρ S2
def lNotV (la : LE) : LE := fun ρ S => (la ρ S).bind fun d S1 => (liftB (truth S1 d) S1).bind fun k S2 => .ok (.bl (!k)) S2
theorem pel_one {op : BoolOp} (h : PEL X a l) : PEL X (.BoolOp op [a] pos) l := ⟨fun pins s σ H m ρ S I x r hp => BoolOp_one (h.run pins s σ H m ρ S I x r hp)⟩
theorem bind_liftB {α : Type} {ob : Option Bool} {S : Sto} {f : Bool → Sto → R α} {X : Cx} {σ : L2.St} {m : List Addr} {H : Hp} (h : Hope X σ m H ((liftB ob S).bind f)) : ∃ k, ob = some k := by
  cases ob with
  | none => exact absurd rfl h.1
  | some k => exact ⟨k, rfl⟩
theorem tru_step {pins : List (Addr × Obj)} {s1 : Shared} {σ : L2.St} {H1 : Hp} {m1 : List Addr} {S1 : Sto} {d : D} {v : V} {u : Value} {k : Bool} (I1 : Inv X pins σ H1 s1) (rv : RelV v u) (x1 : SR X.K m1 H1 S1) (w1 : VR X.K m1 H1 v d) (hk : truth S1 d = some k) {Q : Bool → Shared → Prop}
    (h : ∀ s2, Inv X pins σ H1 s2 → Q k s2) : wpAny (model X.prog X.w) X.A (truthy u) Q X.xe s1 :=
  thn (tru_ok pins s1 σ H1 v u (fun c H' => c = k ∧ H' = H1) I1 rv ⟨k, tru_of x1 w1 hk, rfl, rfl⟩) fun c s2 ⟨H2, I2, ec, eh⟩ => by
    subst ec eh
    exact h s2 I2
theorem pel_and (ha : PEL X a la) (hb : PEL X (.BoolOp .And (b :: rest) pos) lb) : PEL X (.BoolOp .And (a :: b :: rest) pos) (lAndV la lb) := by
  refine ⟨fun pins s σ H m ρ S I x r hp => ?_⟩
  refine BoolOp_and (run_seq ha I x r hp fun d S1 q1 v u s1 H1 m1 I1 rv e1 x1 w1 r1 hp1 => ?_)
  obtain ⟨k, hk⟩ := bind_liftB hp1
  refine tru_step I1 rv x1 w1 hk fun s2 I2 => ?_
  have e0 : lAndV la lb ρ S = if k = true then lb ρ S1 else .ok d S1 := by unfold lAndV; rw [q1, bind_ok, hk]; rfl
  rw [hk] at hp1
  rw [e0]
  cases k with
  | true => exact thn (hb.run pins s2 σ H1 m1 ρ S1 I2 x1 r1 hp1) fun _ _ z => z.left e1
  | false => exact ⟨d, S1, rfl, v, H1, m1, I2, rv, e1, x1, w1⟩
theorem pel_or (ha : PEL X a la) (hb : PEL X (.BoolOp .Or (b :: rest) pos) lb) : PEL X (.BoolOp .Or (a :: b :: rest) pos) (lOrV la lb) := by
  refine ⟨fun pins s σ H m ρ S I x r hp => ?_⟩
  refine BoolOp_or (run_seq ha I x r hp fun d S1 q1 v u s1 H1 m1 I1 rv e1 x1 w1 r1 hp1 => ?_)
  obtain ⟨k, hk⟩ := bind_liftB hp1
  refine tru_step I1 rv x1 w1 hk fun s2 I2 => ?_
  have e0 : lOrV la lb ρ S = if k = true then .ok d S1 else lb ρ S1 := by unfold lOrV; rw [q1, bind_ok, hk]; rfl
  rw [hk] at hp1
  rw [e0]
  cases k with
  | false => exact thn (hb.run pins s2 σ H1 m1 ρ S1 I2 x1 r1 hp1) fun _ _ z => z.left e1
  | true => exact ⟨d, S1, rfl, v, H1, m1, I2, rv, e1, x1, w1⟩
def lIf (t : LT) (la lb : LE) : LE := fun ρ S => (t ρ S).bind fun k S1 => if k = true then la ρ S1 else lb ρ S1
theorem pel_ifExp (hc : PTL X c tc) (ha : PEL X a la) (hb : PEL X b lb) : PEL X (.IfExp c a b pos) (lIf tc la lb) := by
  refine ⟨fun pins s σ H m ρ S I x r hp => ?_⟩
  refine wpAny_IfExp (run_seqT hc I x r hp fun k S1 q1 s1 H1 m1 I1 e1 x1 r1 hp1 => ?_)
  have e0 : lIf tc la lb ρ S = if k = true then la ρ S1 else lb ρ S1 := by unfold lIf; rw [q1]; rfl
  rw [e0]
  cases k with
  | true => exact thn (ha.run pins s1 σ H1 m1 ρ S1 I1 x1 r1 hp1) fun _ _ z => z.left e1
  | false => exact thn (hb.run pins s1 σ H1 m1 ρ S1 I1 x1 r1 hp1) fun _ _ z => z.left e1

/-! ### arguments, displays -/
def aNil : LA := fun _ S => .ok [] S
def aCons (la : LE) (t : LA) : LA := fun ρ S => (la ρ S).bind fun d S1 => (t ρ S1).bind fun ds S2 => .ok (d :: ds) S2
theorem pal_nil : PAL X [] aNil := ⟨fun pos pins s σ H m ρ S I x r hp => Calls.spliced_nil ⟨[], S, [], H, m, rfl, I, .nil, Ext.refl, x, .nil⟩⟩
theorem pal_cons (ha : PEL X e la) (hr : PAL X es t) (hs : starEach (e :: es) X.env = (false, eval e X.env) :: starEach es X.env := by rfl) : PAL X (e :: es) (aCons la t) := by
  refine ⟨fun pos pins s σ H m ρ S I x r hp => ?_⟩
  rw [hs]
  show wpAny _ _ (spliced ((false, eval e X.env) :: backTo pos (starEach es X.env))) _ _ s
  refine Calls.spliced_cons (run_seq ha I x r hp fun d S1 q1 v u s1 H1 m1 I1 rv e1 x1 w1 r1 hp1 => ?_)
  refine run_seqA hr I1 x1 r1 hp1 fun ds S2 q2 vs us s2 H2 m2 I2 rvs e2 x2 w2 r2 hp2 => ?_
  exact ⟨d :: ds, S2, v :: vs, H2, m2, by unfold aCons; rw [q1, bind_ok, q2, bind_ok], I2, .cons rv rvs, e1.trans e2, x2, .cons (w1.ext e2 x1.muts) w2⟩
def lTup (t : LA) : LE := fun ρ S => (t ρ S).bind fun ds S1 => if ds.length ≤ sizeLine then .ok (.tup ds) S1 else .bad
def lLst (t : LA) : LE := fun ρ S => (t ρ S).bind fun ds S1 => if ds.length ≤ sizeLine then .ok (.lst ds) S1 else .bad
/-- a list that is put into the store -/
def lLstN (t : LA) : LE := fun ρ S => (t ρ S).bind fun ds S1 => if ds.length ≤ sizeLine then .ok (.ref S1.length) (S1 ++ [.lst ds]) else .bad
theorem hope_if {α : Type} {p : Prop} [Decidable p] {r : R α} {X : Cx} {σ : L2.St} {m : List Addr} {H : Hp} (h : Hope X σ m H (if p then r else .bad)) : p := by
  by_cases q : p
  · exact q
  · rw [if_neg q] at h; exact absurd rfl h.1
theorem pel_tup {x1 : Nat} (h : PAL X es t) : PEL X (.Tuple es x1 pos) (lTup t) := by
  refine ⟨fun pins s σ H m ρ S I x r hp => ?_⟩
  refine wpAny_Tuple_spliced (run_seqA h I x r hp fun ds S1 q1 vs us s1 H1 m1 I1 rv e1 x1 w1 r1 hp1 => ?_)
  have hz := hope_if hp1
  refine ⟨by rw [← rv.length, w1.length]; exact hz, ?_⟩
  have hf : H1 s1.heap.objs.size = none := I1.hok.fresh (Nat.le_refl _)
  have e0 : lTup t ρ S = .ok (.tup ds) S1 := by unfold lTup; rw [q1, bind_ok, if_pos hz]
  rw [e0]
  refine (vpr_of ⟨.ref s1.heap.objs.size, upd H1 s1.heap.objs.size (.tup vs), m1, I1.laid (t' := s1.toks) (fun b u e => Heap.get?_push_of_some _ e) (Nat.le_refl _) ?_, rfl, Ext.fresh hf, x1.fresh hf, vr_newTup x1 hf w1⟩).left e1
  exact ⟨by rw [w1.length]; exact hz, us, rv, ⟨_, Heap.get?_push_size _ rfl, rfl, _, rfl⟩⟩
theorem pel_lst (h : PAL X es t) : PEL X (.List es pos) (lLst t) := by
  refine ⟨fun pins s σ H m ρ S I x r hp => ?_⟩
  refine wpAny_List_spliced (run_seqA h I x r hp fun ds S1 q1 vs us s1 H1 m1 I1 rv e1 x1 w1 r1 hp1 => ?_)
  have hz := hope_if hp1
  refine ⟨by rw [← rv.length, w1.length]; exact hz, ?_⟩
  have hf : H1 s1.heap.objs.size = none := I1.hok.fresh (Nat.le_refl _)
  have e0 : lLst t ρ S = .ok (.lst ds) S1 := by unfold lLst; rw [q1, bind_ok, if_pos hz]
  rw [e0]
  refine (vpr_of ⟨.ref s1.heap.objs.size, upd H1 s1.heap.objs.size (.lst vs), m1, I1.laid (t' := s1.toks) (fun b u e => Heap.get?_push_of_some _ e) (Nat.le_refl _) ?_, rfl, Ext.fresh hf, x1.fresh hf, vr_newLst x1 hf w1⟩).left e1
  exact ⟨by rw [w1.length]; exact hz, us, 0, rv, Heap.get?_push_size _ rfl⟩
theorem pel_lstN (h : PAL X es t) : PEL X (.List es pos) (lLstN t) := by
  refine ⟨fun pins s σ H m ρ S I x r hp => ?_⟩
  refine wpAny_List_spliced (run_seqA h I x r hp fun ds S1 q1 vs us s1 H1 m1 I1 rv e1 x1 w1 r1 hp1 => ?_)
  have hz := hope_if hp1
  refine ⟨by rw [← rv.length, w1.length]; exact hz, ?_⟩
  have hf : H1 s1.heap.objs.size = none := I1.hok.fresh (Nat.le_refl _)
  have e0 : lLstN t ρ S = .ok (.ref S1.length) (S1 ++ [.lst ds]) := by unfold lLstN; rw [q1, bind_ok, if_pos hz]
  rw [e0]
  obtain ⟨m', z1, z2, z3⟩ := qv_newL x1 hf w1
  refine (vpr_of ⟨.ref s1.heap.objs.size, upd H1 s1.heap.objs.size (.lst vs), m', I1.laid (t' := s1.toks) (fun b u e => Heap.get?_push_of_some _ e) (Nat.le_refl _) ?_, rfl, z1, z2, z3⟩).left e1
  exact ⟨by rw [w1.length]; exact hz, us, 0, rv, Heap.get?_push_size _ rfl⟩

/-! ### chains a < b < c -/
def lChain (g g' : G2) (la lb lc : LE) : LE := fun ρ S => (la ρ S).bind fun x S1 => (lb ρ S1).bind fun y S2 => (lift1 (g S2 x y) S2).bind fun d S3 => match d with
  | .bl true => (lc ρ S3).bind fun z S4 => lift1 (g' S4 y z) S4
  | .bl false => .ok (.bl false) S3
  | _ => .bad
theorem ptl_chain {op op' : CmpOp} {g g' : G2} (ho : OpL X (compareOp op) g) (ho' : OpL X (compareOp op') g') (ha : PEL X a la) (hb : PEL X b lb) (hc : PEL X c lc)
    (hm : lastMarks [op, op'] [b, c] = false := by with_unfolding_all rfl) : PTL X (.Compare a [op, op'] [b, c] pos) (tTru (lChain g g' la lb lc)) := by
  refine ⟨fun pins s σ H m ρ S I x r hp => ?_⟩
  have hp0 : Hope X σ m H (lChain g g' la lb lc ρ S) := by
    unfold tTru at hp
    cases q : lChain g g' la lb lc ρ S with
    | bad => rw [q] at hp; exact absurd rfl hp.1
    | exc C fs S' => rw [q] at hp; exact hp.exc
    | ok d S1 => exact Hope.ok
  refine isTrue_chain (run_seq ha I x r hp0 fun dx S1 q1 v u s1 H1 m1 I1 rv e1 x1 w1 r1 hp1 => test_link (run_seq hb I1 x1 r1 hp1 fun dy S2 q2 v2 u2 s2 H2 m2 I2 rv2 e2 x2 w2 r2 hp2 => ?_)) hm
  cases q3 : g S2 dx dy with
  | none => rw [q3] at hp2; exact absurd rfl hp2.1
  | some d =>
    refine thn (ho.run pins s2 σ H2 m2 S2 v v2 dx dy d u u2 I2 x2 (w1.ext e2 x1.muts) w2 rv rv2 q3) fun w s3 ⟨v3, H3, m3, I3, rv3, e3, x3, w3⟩ => ?_
    rw [q3] at hp2
    have r3 := r2.ext e3 x2.muts
    have hp3 := hp2.ext e3
    cases w3 with
    | bl k =>
      cases rv3
      refine wpAny_truthy_bool ?_
      cases k with
      | false =>
        refine ite_ff ?_
        have e0 : lChain g g' la lb lc ρ S = .ok (.bl false) S2 := by unfold lChain; rw [q1, bind_ok, q2, bind_ok, q3]; rfl
        exact ⟨S2, H3, m3, by unfold tTru; rw [e0]; rfl, I3, (e1.trans e2).trans e3, x3⟩
      | true =>
        have e0 : lChain g g' la lb lc ρ S = (lc ρ S2).bind fun z S4 => lift1 (g' S4 dy z) S4 := by unfold lChain; rw [q1, bind_ok, q2, bind_ok, q3]; rfl
        refine ite_tt (test_last (run_seq hc I3 x3 r3 (show Hope X σ m3 H3 ((lc ρ S2).bind fun z S4 => lift1 (g' S4 dy z) S4) from hp3) fun dz S4 q4 v4 u4 s4 H4 m4 I4 rv4 e4 x4 w4 r4 hp4 => ?_))
        obtain ⟨dd, q5⟩ := lift_ok hp4
        have e5 : lChain g g' la lb lc ρ S = .ok dd S4 := by rw [e0, q4, bind_ok, q5]; rfl
        refine thn (ho'.run pins s4 σ H4 m4 S4 v2 v4 dy dz dd u2 u4 I4 x4 ((w2.ext e3 x2.muts).ext e4 x3.muts) w4 rv2 rv4 q5) fun w' s5 ⟨v5, H5, m5, I5, rv5, e5', x5, w5⟩ => ?_
        refine tru_run (s := s) e5 I5 rv5 ((((e1.trans e2).trans e3).trans e4).trans e5') x5 w5 ?_
        unfold tTru at hp
        rw [e5, bind_ok] at hp
        exact hp.ext ((((e1.trans e2).trans e3).trans e4).trans e5')
    | _ => exact absurd rfl hp2.1
end
end MP

namespace MP
open PySem PySem.Spec PyProof.Rows L2

section
variable {X : Cx} {a b c e o : Expr} {la lb lc l lo : LE} {pos p apos cpos : Pos} {es rest : List Expr} {t : LA} {tc : LT} {x : Str}
/-! ### subscripts -/
structure IxL (X : Cx) (g : G2) : Prop where
  run : ∀ (value slice : Expr) (pins : List (Addr × Obj)) (s : Shared) (σ : L2.St) (H : Hp) (m : List Addr) (S : Sto) (x y : V) (dx dy d : D) (v u : Value), Inv X pins σ H s → SR X.K m H S → VR X.K m H x dx → VR X.K m H y dy → RelV x v → RelV y u → g S dx dy = some d →
    (∀ o i, subscripted slice false o i = operate [o, i] (getItem o i)) → wpAny (model X.prog X.w) X.A (subscriptTail value slice v u) (VP X pins σ m H d S) X.xe s
theorem IxL.of {r : R2} {g : G2} (h : IxR X r)
    (hg : ∀ (H : Hp) (m : List Addr) (S : Sto) (x y : V) (dx dy d : D), SR X.K m H S → VR X.K m H x dx → VR X.K m H y dy → g S dx dy = some d → r x y H (QV X.K m H S d)) : IxL X g :=
  ⟨fun value slice pins s σ H m S x y dx dy d v u I q rx ry ex ey e hs => thn (h value slice pins s σ H x y v u _ I ex ey (hg H m S x y dx dy d q rx ry e) (hs _ _)) fun _ _ z => vp_of z⟩
theorem IxL.or {g g' : G2} (h : IxL X g) (h' : IxL X g') : IxL X (fun S x y => (g S x y).or (g' S x y)) :=
  ⟨fun value slice pins s σ H m S x y dx dy d v u I q rx ry ex ey e hs => by
    cases z : g S dx dy with
    | some d' =>
      rw [z] at e
      cases e
      exact h.run value slice pins s σ H m S x y dx dy _ v u I q rx ry ex ey z hs
    | none =>
      rw [z] at e
      exact h'.run value slice pins s σ H m S x y dx dy _ v u I q rx ry ex ey e hs⟩
theorem pel_ix {g : G2} (hr : IxL X g) (ha : PEL X a la) (hb : PEL X b lb) (hs : PlainIx b := by intro _ _; rfl) : PEL X (.Subscript a b pos) (lBin g la lb) := by
  refine ⟨fun pins s σ H m ρ S I x r hp => ?_⟩
  refine Subscript_ (run_seq ha I x r hp fun dx S1 q1 v u s1 H1 m1 I1 rv e1 x1 w1 r1 hp1 => run_seq hb I1 x1 r1 hp1 fun dy S2 q2 v2 u2 s2 H2 m2 I2 rv2 e2 x2 w2 r2 hp2 => ?_)
  obtain ⟨d, q3⟩ := lift_ok hp2
  have e : lBin g la lb ρ S = .ok d S2 := by
    unfold lBin; rw [q1, bind_ok, q2, bind_ok, q3]; rfl
  rw [e]
  exact thn (hr.run a b pins s2 σ H2 m2 S2 v v2 dx dy d u u2 I2 x2 (w1.ext e2 x1.muts) w2 rv rv2 q3 hs) fun _ _ z => (vpr_of z).left (e1.trans e2)
def gIx : G2 := fun S x y => match vw S x, vw S y with
  | .lst xs, .int i => atI xs i
  | .tup xs, .int i => atI xs i
  | .str z, .int i => if z.length ≤ sizeLine then (atI z.cps.toList i).map fun c => .str ⟨#[c]⟩ else none
  | _, _ => none
theorem VRs.atI {K : PySem.W.Frag} {m : List Addr} {H : Hp} {vs : List V} {ds : List D} {i : Int} {d : D} (r : VRs K m H vs ds) (e : atI ds i = some d) : ∃ v, L2.atI vs i = some v ∧ VR K m H v d := by
  unfold L2.atI at e ⊢
  rw [r.length]
  cases q : ixN ds.length i with
  | none => rw [q] at e; cases e
  | some j =>
    rw [q] at e
    exact r.getr e
theorem ixl_seq : IxL X gIx := .of ix_seq fun H m S x y dx dy d q rx ry e => by
  unfold gIx at e
  split at e
  · rename_i xs i e1 e2
    obtain ⟨a, vs, rfl, h1, r⟩ := vw_lst q rx e1
    obtain ⟨v, h2, w⟩ := r.atI e
    exact .inl ⟨a, vs, i, v, rfl, vw_int ry e2, h1, h2, qv_same q w⟩
  · rename_i xs i e1 e2
    obtain ⟨a, vs, rfl, h1, r⟩ := vw_tup rx e1
    obtain ⟨v, h2, w⟩ := r.atI e
    exact .inr (.inl ⟨a, vs, i, v, rfl, vw_int ry e2, SqT.of h1, h2, qv_same q w⟩)
  · rename_i z i e1 e2
    split at e
    · cases h : L2.atI z.cps.toList i with
      | none => rw [h] at e; cases e
      | some c =>
        rw [h] at e
        cases e
        exact .inr (.inr ⟨z, i, c, vw_str rx e1, vw_int ry e2, ‹_›, h, qv_same q (.str _)⟩)
    · cases e
  · cases e

/-! ### slices -/
abbrev LO := Ev → Sto → R (Option Int)
structure POL (X : Cx) (e : Option Expr) (l : LO) : Prop where
  run : ∀ (pins : List (Addr × Obj)) (s : Shared) (σ : L2.St) (H : Hp) (m : List Addr) (ρ : Ev) (S : Sto), Inv X pins σ H s → SR X.K m H S → ER X.K m H σ ρ → Hope X σ m H (l ρ S) →
    wpAny (model X.prog X.w) X.A (evalPart e X.env) (fun u s' => ∃ o S' H' m', l ρ S = .ok o S' ∧ Inv X pins σ H' s' ∧ IsPart u o ∧ Ext m H m' H' ∧ SR X.K m' H' S') X.xe s
def oNone : LO := fun _ S => .ok none S
def oSome (l : LE) : LO := fun ρ S => (l ρ S).bind fun d S1 => match d with
  | .int i => .ok (some i) S1
  | _ => .bad
theorem pol_none : POL X none oNone := ⟨fun pins s σ H m ρ S I x r hp => by
  rw [evalPart_none]
  exact wpAny_pure ⟨none, S, H, m, rfl, I, .none, Ext.refl, x⟩⟩
theorem pol_some (h : PEL X e l) : POL X (some e) (oSome l) := ⟨fun pins s σ H m ρ S I x r hp => by
  rw [evalPart_some]
  refine run_seq h I x r hp fun d S1 q1 v u s1 H1 m1 I1 rv e1 x1 w1 r1 hp1 => ?_
  cases w1 with
  | int i =>
    obtain ⟨t, rfl⟩ := rv
    exact ⟨some i, S1, H1, m1, by unfold oSome; rw [q1]; rfl, I1, .int i t, e1, x1⟩
  | _ => exact absurd rfl hp1.1⟩
def lSlice (g : Sto → D → Option Int → Option Int → Option D) (la : LE) (lo hi : LO) : LE := fun ρ S => (la ρ S).bind fun d S1 => (lo ρ S1).bind fun i S2 => (hi ρ S2).bind fun j S3 => lift1 (g S3 d i j) S3
structure SlL (X : Cx) (g : Sto → D → Option Int → Option Int → Option D) : Prop where
  run : ∀ (pins : List (Addr × Obj)) (s : Shared) (σ : L2.St) (H : Hp) (m : List Addr) (S : Sto) (x : V) (dx d : D) (v vl vu : Value) (lo hi : Option Int) (sl : Addr), Inv X pins σ H s → SR X.K m H S → VR X.K m H x dx → RelV x v → s.heap.IsSliceOf sl vl vu .none → IsPart vl lo → IsPart vu hi → g S dx lo hi = some d →
    ∃ T id, typeLookup (.type T) "__getitem__" = pure (some (.builtin id)) ∧ s.TypeIs v T ∧ wpAny (model X.prog X.w) X.A (getItem v (.ref sl)) (VP X pins σ m H d S) X.xe s
theorem hope_seq {α β : Type} {r : R α} {f : α → Sto → R β} {X : Cx} {σ : L2.St} {m : List Addr} {H : Hp} (h : Hope X σ m H (r.bind f)) : Hope X σ m H r := by
  cases r with
  | bad => exact absurd rfl h.1
  | exc C fs S' => exact h.exc
  | ok a S => exact Hope.ok
theorem pel_slice {g : Sto → D → Option Int → Option Int → Option D} {lo hi : Option Expr} {l1 l2 : LO} {p2 : Pos} (hr : SlL X g) (he : PEL X e l) (hl : POL X lo l1) (hu : POL X hi l2) : PEL X (.Subscript e (.Slice lo hi none p2) pos) (lSlice g l l1 l2) := by
  refine ⟨fun pins s σ H m ρ S I x r hp => ?_⟩
  refine Subscript_ (run_seq he I x r hp fun dx S1 q1 v u s1 H1 m1 I1 rv e1 x1 w1 r1 hp1 => ?_)
  refine wpAny_Slice (thn (hl.run pins s1 σ H1 m1 ρ S1 I1 x1 r1 (hope_seq hp1)) fun vl s2 ⟨i, S2, H2, m2, q2, I2, pl, e2, x2⟩ => ?_)
  rw [q2, bind_ok] at hp1
  have r2 := r1.ext e2 x1.muts
  have hp2 := Hope.ext hp1 e2
  refine thn (hu.run pins s2 σ H2 m2 ρ S2 I2 x2 r2 (hope_seq hp2)) fun vu s3 ⟨j, S3, H3, m3, q3, I3, pu, e3, x3⟩ => ?_
  rw [q3, bind_ok] at hp2
  obtain ⟨d, q4⟩ := lift_ok hp2
  rw [evalPart_none]
  refine wpAny_pure ?_
  have I4 : Inv X pins σ H3 { s3 with heap := s3.heap.push { cls := .type "slice", data := .fields #[vl, vu, .none] } } := I3.kept (t' := s3.toks) fun b ob q => Heap.get?_push_of_some _ q
  have w3 := (w1.ext e2 x1.muts).ext e3 x2.muts
  obtain ⟨T, id, hT, ht, hg⟩ := hr.run pins { s3 with heap := s3.heap.push { cls := .type "slice", data := .fields #[vl, vu, .none] } } σ H3 m3 S3 v dx d u vl vu i j s3.heap.objs.size I4 x3 w3 rv (Heap.IsSliceOf.new ..) pl pu q4
  have e0 : lSlice g l l1 l2 ρ S = .ok d S3 := by unfold lSlice; rw [q1, bind_ok, q2, bind_ok, q3, bind_ok, q4]; rfl
  rw [e0]
  show wpAny (model X.prog X.w) X.A (subscriptTail e (.Slice lo hi none p2) u (.ref s3.heap.objs.size)) _ X.xe { s3 with heap := s3.heap.push { cls := .type "slice", data := .fields #[vl, vu, .none] } }
  exact tail_any (ops := [.ref s3.heap.objs.size, u]) ht hT (thn hg fun _ _ z => (vpr_of z).left ((e1.trans e2).trans e3)) (by with_unfolding_all rfl)
def cutD (xs : List D) (lo hi : Option Int) : List D := (xs.drop (HT.sIx xs.length 0 lo)).take (HT.sIx xs.length xs.length hi - HT.sIx xs.length 0 lo)
theorem VRs.cut {K : PySem.W.Frag} {m : List Addr} {H : Hp} {vs : List V} {ds : List D} (r : VRs K m H vs ds) (lo hi : Option Int) : VRs K m H (cutV vs lo hi) (cutD ds lo hi) := by
  unfold cutV cutD
  rw [r.length]
  exact (r.drop _).take _
def gSlice (S : Sto) (x : D) (lo hi : Option Int) : Option D := match vw S x with
  | .lst xs => some (.lst (cutD xs lo hi))
  | .tup xs => some (.tup (cutD xs lo hi))
  | .ftup xs => if HT.sIx xs.length 0 lo = 0 ∧ HT.sIx xs.length xs.length hi = xs.length then some (.ftup xs) else some (.tup (cutD xs lo hi))
  | .str z => if z.length ≤ sizeLine then some (.str (cutS z lo hi)) else none
  | _ => none
theorem sIx_whole (n : Nat) {lo hi : Option Int} {ds : List D} (h : HT.sIx ds.length 0 lo = 0 ∧ HT.sIx ds.length ds.length hi = ds.length) : cutD ds lo hi = ds := by
  unfold cutD
  rw [h.1, h.2]
  simp
theorem sll_any : SlL X gSlice := ⟨fun pins s σ H m S x dx d v vl vu lo hi sl I q rx ev hs pl pu e => by
  unfold gSlice at e
  split at e
  · rename_i xs e1
    cases e
    obtain ⟨a, vs, rfl, h1, r⟩ := vw_lst q rx e1
    obtain ⟨T, id, h2, h3, h4⟩ := sl_list pins s σ H _ v vl vu lo hi sl (QV X.K m H S (.lst (cutD xs lo hi))) I ev hs pl pu ⟨a, vs, rfl, h1, fun p hp => qv_new q hp (vr_newLst q hp (r.cut lo hi))⟩
    exact ⟨T, id, h2, h3, thn h4 fun _ _ z => vp_of z⟩
  · rename_i xs e1
    cases e
    obtain ⟨a, vs, rfl, h1, r⟩ := vw_tup rx e1
    obtain ⟨T, id, h2, h3, h4⟩ := sl_tupA pins s σ H _ v vl vu lo hi sl (QV X.K m H S (.tup (cutD xs lo hi))) I ev hs pl pu
      ⟨a, vs, rfl, SqT.of h1, fun z => qv_same q (by rw [r.length] at z; rw [sIx_whole 0 z]; exact .tup h1 r), fun _ p hp => qv_new q hp (vr_newTup q hp (r.cut lo hi))⟩
    exact ⟨T, id, h2, h3, thn h4 fun _ _ z => vp_of z⟩
  · rename_i xs e1
    obtain ⟨a, vs, o, rfl, hd, h1, r⟩ := vw_ftup rx e1
    split at e
    · rename_i hw
      cases e
      obtain ⟨T, id, h2, h3, h4⟩ := sl_tupA pins s σ H _ v vl vu lo hi sl (QV X.K m H S (.ftup xs)) I ev hs pl pu
        ⟨a, vs, rfl, SqT.rd (.inr ⟨o, h1⟩), fun z => qv_same q (.ftup hd h1 r), fun z p hp => absurd (show _ ∧ _ by rw [r.length]; exact hw) z⟩
      exact ⟨T, id, h2, h3, thn h4 fun _ _ z => vp_of z⟩
    · rename_i hw
      cases e
      obtain ⟨T, id, h2, h3, h4⟩ := sl_tupA pins s σ H _ v vl vu lo hi sl (QV X.K m H S (.tup (cutD xs lo hi))) I ev hs pl pu
        ⟨a, vs, rfl, SqT.rd (.inr ⟨o, h1⟩), fun z => absurd (by rw [r.length] at z; exact z) hw, fun _ p hp => qv_new q hp (vr_newTup q hp (r.cut lo hi))⟩
      exact ⟨T, id, h2, h3, thn h4 fun _ _ z => vp_of z⟩
  · rename_i z e1
    split at e
    · cases e
      have e2 := vw_str rx e1
      subst e2
      obtain ⟨T, id, h2, h3, h4⟩ := sl_str pins s σ H _ v vl vu lo hi sl (QV X.K m H S (.str (cutS z lo hi))) I ev hs pl pu ⟨z, rfl, ‹_›, qv_same q (.str _)⟩
      exact ⟨T, id, h2, h3, thn h4 fun _ _ z => vp_of z⟩
    · cases e
  · cases e⟩

/-! ### attributes of objects -/
theorem VFs.look {K : PySem.W.Frag} {m : List Addr} {H : Hp} {fs : List (Str × V)} {gs : List (Str × D)} {f : Str} {d : D} : VFs K m H fs gs → gs.lookup f = some d → ∃ v, fs.lookup f = some v ∧ VR K m H v d
  | .nil, e => by simp at e
  | @VFs.cons _ _ _ g v d' vs ds h r, e => by
    by_cases q : f = g
    · subst q
      simp [List.lookup] at e
      subst e
      exact ⟨v, by simp [List.lookup], h⟩
    · have hb : (f == g) = false := beq_eq_false_iff_ne.mpr q
      simp only [List.lookup, hb] at e ⊢
      exact VFs.look r e
theorem VFs.lookN {K : PySem.W.Frag} {m : List Addr} {H : Hp} {fs : List (Str × V)} {gs : List (Str × D)} {f : Str} : VFs K m H fs gs → gs.lookup f = none → fs.lookup f = none
  | .nil, e => rfl
  | @VFs.cons _ _ _ g v d' vs ds h r, e => by
    by_cases q : f = g
    · subst q
      simp [List.lookup] at e
    · have hb : (f == g) = false := beq_eq_false_iff_ne.mpr q
      simp only [List.lookup, hb] at e ⊢
      exact VFs.lookN r e
def gFld (C : Addr) (f : Str) (S : Sto) (d : D) : Option D := match vw S d with
  | .obj C' fs => if C' = C then fs.lookup f else none
  | _ => none
def lFld (C : Addr) (f : Str) (l : LE) : LE := fun ρ S => (l ρ S).bind fun d S1 => lift1 (gFld C f S1 d) S1
theorem pel_fld {C : Addr} {f : Str} (cl : Cls X.K C) (na : NoAttr X.K C f) (he : PEL X e l) (hb : attributeBase e f X.env (eval e X.env) = eval e X.env := by rfl) : PEL X (.Attribute e f pos) (lFld C f l) := by
  refine ⟨fun pins s σ H m ρ S I x r hp => ?_⟩
  refine attr_of hb (run_seq he I x r hp fun d S1 q1 v u s1 H1 m1 I1 rv e1 x1 w1 r1 hp1 => ?_)
  obtain ⟨d', q2⟩ := lift_ok hp1
  have e0 : lFld C f l ρ S = .ok d' S1 := by unfold lFld; rw [q1, bind_ok, q2]; rfl
  rw [e0]
  unfold gFld at q2
  split at q2
  · rename_i C' gs q3
    split at q2
    · rename_i q4
      subst q4
      obtain ⟨a, dx, fs, rfl, h1, r2⟩ := vw_obj x1 w1 q3
      obtain ⟨w, h2, h3⟩ := r2.look q2
      obtain rfl : u = Value.ref a := rv
      exact getattr_ok I1 h1 cl na h2 fun u' s2 I2 ru => (vpr_of ⟨w, H1, m1, I2, ru, Ext.refl, x1, h3⟩).left e1
    · cases q2
  · cases q2

/-! ### built-in functions and types, called by values -/
abbrev GC := Sto → List D → Option D
structure CallL (X : Cx) (f : Value) (g : GC) : Prop where
  run : ∀ (pins : List (Addr × Obj)) (s : Shared) (σ : L2.St) (H : Hp) (m : List Addr) (S : Sto) (xs : List V) (ds : List D) (d : D) (us : List Value), Inv X pins σ H s → SR X.K m H S → VRs X.K m H xs ds → Vals xs us → g S ds = some d →
    wpAny (model X.prog X.w) X.A (call f us) (VP X pins σ m H d S) X.xe s
theorem CallL.of {f : Value} {r : List V → Hp → VK → Prop} {g : GC} (h : CallR X f r) (hg : ∀ (H : Hp) (m : List Addr) (S : Sto) (xs : List V) (ds : List D) (d : D), SR X.K m H S → VRs X.K m H xs ds → g S ds = some d → r xs H (QV X.K m H S d)) : CallL X f g :=
  ⟨fun pins s σ H m S xs ds d us I q r rv e => thn (h pins s σ H xs us _ I rv (hg H m S xs ds d q r e)) fun _ _ z => vp_of z⟩
theorem CallL.or {f : Value} {g g' : GC} (h : CallL X f g) (h' : CallL X f g') : CallL X f (fun S ds => (g S ds).or (g' S ds)) :=
  ⟨fun pins s σ H m S xs ds d us I q r rv e => by
    cases z : g S ds with
    | some d' =>
      rw [z] at e
      cases e
      exact h.run pins s σ H m S xs ds _ us I q r rv z
    | none =>
      rw [z] at e
      exact h'.run pins s σ H m S xs ds _ us I q r rv e⟩
def lCallB (g : GC) (t : LA) : LE := fun ρ S => (t ρ S).bind fun ds S1 => lift1 (g S1 ds) S1
theorem pel_callB {id : String} {g : GC} (hc : CallL X (.builtin id) g) (hg : Gl X x) (hm : X.mg x = none) (hv : bootBuiltins x = some (.builtin id)) (ha : PAL X (e :: es) t) (hn : x ≠ "__name__" := by decide) (hdb : (x == ("__debug__" : Str)) = false := by decide)
    (he : starEach (e :: es) X.env = (false, eval e X.env) :: starEach es X.env := by rfl) (hpl : (backTo pos (starEach es X.env)).any (·.1) = false := by rfl) : PEL X (.Call (.Name x p) (e :: es) [] pos) (lCallB g t) := by
  refine ⟨fun pins s σ H m ρ S I x r hp => ?_⟩
  refine wpAny_Call_Name_kw (ld_blt I hg hm hv ?_ hn hdb)
  refine PyProof.Rows.callWith_builtin1 (run_seqA ha I x r hp fun ds S1 q1 vs us s1 H1 m1 I1 rv e1 x1 w1 r1 hp1 => ?_) he hpl
  obtain ⟨d', q2⟩ := lift_ok hp1
  have e0 : lCallB g t ρ S = .ok d' S1 := by unfold lCallB; rw [q1, bind_ok, q2]; rfl
  rw [e0]
  exact thn (hc.run pins s1 σ H1 m1 S1 vs ds d' us I1 x1 w1 rv q2) fun _ _ z => (vpr_of z).left e1
theorem pel_callTy {T : String} {g : GC} (hc : CallL X (.type T) g) (hg : Gl X x) (hm : X.mg x = none) (hv : bootBuiltins x = some (.type T)) (ha : PAL X (e :: es) t) (hn : x ≠ "__name__" := by decide) (hdb : (x == ("__debug__" : Str)) = false := by decide)
    (he : starEach (e :: es) X.env = (false, eval e X.env) :: starEach es X.env := by rfl) (hpl : (backTo pos (starEach es X.env)).any (·.1) = false := by rfl) : PEL X (.Call (.Name x p) (e :: es) [] pos) (lCallB g t) := by
  refine ⟨fun pins s σ H m ρ S I x r hp => ?_⟩
  refine wpAny_Call_Name_kw (ld_blt I hg hm hv ?_ hn hdb)
  refine PyProof.Rows.callWith_type1 (run_seqA ha I x r hp fun ds S1 q1 vs us s1 H1 m1 I1 rv e1 x1 w1 r1 hp1 => ?_) he hpl
  obtain ⟨d', q2⟩ := lift_ok hp1
  have e0 : lCallB g t ρ S = .ok d' S1 := by unfold lCallB; rw [q1, bind_ok, q2]; rfl
  rw [e0]
  exact thn (hc.run pins s1 σ H1 m1 S1 vs ds d' us I1 x1 w1 rv q2) fun _ _ z => (vpr_of z).left e1
end
end MP

namespace MP
open PySem PySem.Spec PyProof.Rows L2

/-! ### room, and no repr under way (L2.Room and L2.FnOk, with the guards) -/
structure Room (k : Nat) (A : Around) : Prop where
  r : L2.Room k A
  g : A.guards = some []
theorem Room.mono {j k : Nat} {A : Around} (r : MP.Room k A) (h : j ≤ k) : MP.Room j A := ⟨r.r.mono h, r.g⟩
theorem Room.deeper {k : Nat} {A : Around} (r : MP.Room (k + 1) A) (env : Env) : MP.Room k (A.deeper env) := ⟨r.r.deeper env, r.g⟩
theorem Room.in1 {k : Nat} {A : Around} (r : MP.Room (k + 1) A) : MP.Room k A.in1 := ⟨r.r.in1, r.g⟩
theorem Room.make {k : Nat} {A : Around} (r : MP.Room (k + 1) A) (C : Addr) (us : List Value) (kw : List (Str × Value)) : MP.Room k (A.under (.builtin "type.__call__" ⟨.ref C :: us, kw⟩)) :=
  ⟨r.r.make C us kw, by
    have h := r.g
    first
      | exact h
      | (simp [Around.under, Code.guards, pushGuards, Code.isGuard, guardIds, h])⟩
theorem Room.depth {k : Nat} {A : Around} (r : MP.Room k A) : A.depth < recursionLimit := r.r.depth
theorem Room.units {k : Nat} {A : Around} (r : MP.Room k A) : A.units + 64 < cLine := r.r.units
theorem Room.hd {k : Nat} {A : Around} (r : MP.Room k A) : A.handled = none := r.r.hd
structure FnOk (P : Program) (w : World) (K : PySem.W.Frag) (mg : Str → Option Value) (base : Heap) (CX : CXT) (k : Nat) (f : Addr) (fd : FuncData) (ps : List Str) (sp : Sp) : Prop where
  len : ∀ vs H Q E, sp vs H Q E → vs.length = ps.length
  run : ∀ (A : Around) (outer : List Env) (s : Shared) (H : Hp) (args : Args) (us : List Value) (vs : List V) (Q : VK) (E : XK), MP.Room k A → Env0 P w K mg base A outer s H → BindsTo s fd args (ps.zip us) → Vals vs us → sp vs H Q E →
    codeAny (model P w) A (.call (.ref f) args) (CR CX outer P w H s Q E) s
theorem FnOk.imp {P : Program} {w : World} {K : PySem.W.Frag} {mg : Str → Option Value} {base : Heap} {CX : CXT} {k : Nat} {f : Addr} {fd : FuncData} {ps : List Str} {sp sp' : Sp} (F : MP.FnOk P w K mg base CX k f fd ps sp)
    (h : ∀ vs H Q E, sp' vs H Q E → sp vs H Q E) : MP.FnOk P w K mg base CX k f fd ps sp' :=
  ⟨fun vs H Q E q => F.len vs H Q E (h _ _ _ _ q), fun A outer s H args us vs Q E hr he hb hv hs => F.run A outer s H args us vs Q E hr he hb hv (h _ _ _ _ hs)⟩

/-! ### what a def promises, by the store -/
abbrev F := List D → Sto → R D
def spL (K : PySem.W.Frag) (f : F) (n : Nat) : Sp := fun vs H Q E => vs.length = n ∧ ∃ m S ds, SR K m H S ∧ VRs K m H vs ds ∧ f ds S ≠ .bad ∧ (∀ d S', f ds S = .ok d S' → ∀ v H', QV K m H S' d v H' → Q v H') ∧
  ∀ C fs S', f ds S = .exc C fs S' → ∀ cls d H', WL K m H C fs S' cls d H' → E cls d H'
abbrev FnL (P : Program) (w : World) (K : PySem.W.Frag) (mg : Str → Option Value) (base : Heap) (k : Nat) (f : Addr) (fd : FuncData) (ps : List Str) (g : F) : Prop := FnOk P w K mg base (L2.CX P w) k f fd ps (spL K g ps.length)

section
variable {X : Cx} {a b c e o : Expr} {la lb lc l lo : LE} {pos p apos cpos : Pos} {es rest : List Expr} {t : LA} {tc : LT} {x mn : Str} {k : Nat} {f C : Addr} {fd : FuncData} {ps : List Str} {g : F}
theorem run_fnL {pins : List (Addr × Obj)} {σ : L2.St} {H : Hp} {s : Shared} {us ds0 : List Value} {vs dvs : List V} {m : List Addr} {S : Sto} {ds dd : List D} (Fn : FnL X.prog X.w X.K X.mg X.base k f fd ps g) (hr : Room k X.A) (hb : Binds X.K fd ps ds0) (hd : Vals dvs ds0) (hdd : VRs X.K m H dvs dd)
    (I : Inv X pins σ H s) (x : SR X.K m H S) (r : Vals vs us) (rd : VRs X.K m H vs ds) (hl : (vs ++ dvs).length = ps.length) (hp : Hope X σ m H (g (ds ++ dd) S)) :
    wpAny (model X.prog X.w) X.A (call (.ref f) us) (VPr X pins σ m H (g (ds ++ dd) S)) X.xe s := by
  have r2 : Vals (vs ++ dvs) (us ++ ds0) := r.append hd
  have hl2 : (us ++ ds0).length = ps.length := by rw [← r2.length]; exact hl
  have rd2 : VRs X.K m H (vs ++ dvs) (ds ++ dd) := rd.append hdd
  have hsp : spL X.K g ps.length (vs ++ dvs) H (fun v H' => ∃ d S', g (ds ++ dd) S = .ok d S' ∧ QV X.K m H S' d v H') (fun cls d H' => ∃ C fs S', g (ds ++ dd) S = .exc C fs S' ∧ WL X.K m H C fs S' cls d H') :=
    ⟨hl, m, S, ds ++ dd, x, rd2, hp.1, fun d S' q v H' z => ⟨d, S', q, z⟩, fun C fs S' q cls d H' z => ⟨C, fs, S', q, z⟩⟩
  refine wpAny_call (codeAny_mono (Fn.run X.A X.stack s H ⟨us, []⟩ (us ++ ds0) (vs ++ dvs) _ _ hr I.env0 (hb s us I.kIn hl2) r2 hsp) fun r s' hq => ?_)
  cases r with
  | error e =>
    cases q : g (ds ++ dd) S with
    | bad => rw [q] at hp; exact absurd rfl hp.1
    | ok d S' =>
      obtain ⟨_, _, _, _, _, _, _, _, _, _, _, _, C, fs, S', q', _⟩ := hq
      rw [q] at q'; cases q'
    | exc C fs S' =>
      refine hp.2 C fs S' q e s' (XE.of_call I (fun cls d H' w => ?_) hq)
      obtain ⟨C', fs', S'', q', w⟩ := w
      rw [q] at q'; cases q'
      exact ⟨rfl, w⟩
  | ok fl =>
    cases fl with
    | ret u =>
      obtain ⟨v, H', I', rv, d, S', q, m', e, x', w⟩ := I.after hq
      exact ⟨d, S', q, v, H', m', I', rv, e, x', w⟩
    | next => exact False.elim hq
    | brk => exact False.elim hq
    | cont => exact False.elim hq
/-- what a call's values by default are -/
structure Dfl (K : PySem.W.Frag) (dvs : List V) (ds0 : List Value) (dd : List D) : Prop where
  vals : Vals dvs ds0
  rel : ∀ m H, VRs K m H dvs dd
theorem dfl_nil {K : PySem.W.Frag} : Dfl K [] [] [] := ⟨.nil, fun _ _ => .nil⟩
def lCall (n : Nat) (g : F) (dd : List D) (t : LA) : LE := fun ρ S => (t ρ S).bind fun ds S1 => if ds.length + dd.length = n then g (ds ++ dd) S1 else .bad
theorem pel_call {ds0 : List Value} {dvs : List V} {dd : List D} (Fn : FnL X.prog X.w X.K X.mg X.base k f fd ps g) (hr : Room k X.A) (hg : Gl X x) (hm : X.mg x = some (.ref f)) (hk : PySem.W.keepIn X.K (.ref f) = true) (hb : Binds X.K fd ps ds0) (hd : Dfl X.K dvs ds0 dd)
    (ha : PAL X (e :: es) t) (hdb : (x == ("__debug__" : Str)) = false := by decide) (he : starEach (e :: es) X.env = (false, eval e X.env) :: starEach es X.env := by rfl) (hpl : (backTo pos (starEach es X.env)).any (·.1) = false := by rfl) :
    PEL X (.Call (.Name x p) (e :: es) [] pos) (lCall ps.length g dd t) := by
  refine ⟨fun pins s σ H m ρ S I x r hp => ?_⟩
  refine wpAny_Call_Name_kw (ld_glob I hg hm ?_ hdb)
  refine PySem.W.callWith_K (h₀ := X.base) I.ok.mod.kin hk (run_seqA ha I x r hp fun ds S1 q1 vs us s1 H1 m1 I1 rv e1 x1 w1 r1 hp1 => ⟨I1.kIn, ?_⟩) he hpl
  have hl := hope_if hp1
  rw [if_pos hl] at hp1
  have e0 : lCall ps.length g dd t ρ S = g (ds ++ dd) S1 := by unfold lCall; rw [q1, bind_ok, if_pos hl]
  rw [e0]
  exact thn (run_fnL Fn hr hb hd.vals (hd.rel _ _) I1 x1 rv w1 (by rw [List.length_append, w1.length, (hd.rel m1 H1).length]; exact hl) hp1) fun _ _ z => z.left e1
/-- o.m(..): C the object's class -/
def recv (C : Addr) (mn : Str) (S : Sto) (d : D) : Bool := match vw S d with
  | .obj C' fs => decide (C' = C) && (fs.lookup mn).isNone
  | _ => false
def lMeth (C : Addr) (mn : Str) (n : Nat) (g : F) (dd : List D) (lo : LE) (t : LA) : LE := fun ρ S => (lo ρ S).bind fun d S0 => if recv C mn S0 d = true then (t ρ S0).bind fun ds S1 => if (ds.length + dd.length) + 1 = n then g (d :: (ds ++ dd)) S1 else .bad else .bad
theorem recv_at {K : PySem.W.Frag} {m : List Addr} {H : Hp} {S : Sto} {v : V} {d : D} (x : SR K m H S) (r : VR K m H v d) (h : recv C mn S d = true) : ∃ a dx fs, v = .ref a ∧ H a = some (.ins C dx fs) ∧ fs.lookup mn = none := by
  unfold recv at h
  split at h
  · rename_i C' gs q
    rw [Bool.and_eq_true] at h
    have h1 := of_decide_eq_true h.1
    subst h1
    obtain ⟨a, dx, fs, rfl, h2, r2⟩ := vw_obj x r q
    exact ⟨a, dx, fs, rfl, h2, r2.lookN (Option.isNone_iff_eq_none.mp h.2)⟩
  · cases h
theorem pel_meth {pl : Sem Bool} {ds0 : List Value} {dvs : List V} {dd : List D} (c : Cls X.K C) (hm : Meth X.K C mn f) (Fn : FnL X.prog X.w X.K X.mg X.base k f fd ps g) (hr : Room k X.A) (hb : Binds X.K fd ps ds0) (hd : Dfl X.K dvs ds0 dd) (he : PEL X o lo) (ha : PAL X (e :: es) t)
    (hst : starEach (e :: es) X.env = (false, eval e X.env) :: starEach es X.env := by rfl) (hpl : (backTo pos (starEach es X.env)).any (·.1) = false := by rfl)
    (ht : eval (.Call (.Attribute o mn apos) (e :: es) [] pos) X.env = (do
      let ov ← eval o X.env
      standAt apos.atName
      let (f, first) ← holding [ov] (getMethod ov mn pl)
      callWith pos f first (backTo pos (starEach (e :: es) X.env)) (backToKw pos (keywordEach [] X.env))) := by rfl) :
    PEL X (.Call (.Attribute o mn apos) (e :: es) [] pos) (lMeth C mn ps.length g dd lo t) := by
  refine ⟨fun pins s σ H m ρ S I x r hp => ?_⟩
  refine PySem.W.methodCall_KW (pl := pl) (run_seq he I x r hp fun d S0 q0 v u s0 H0 m0 I0 rv0 e0 x0 w0 r0 hp0 => ?_) ht
  have hc := hope_if hp0
  rw [if_pos hc] at hp0
  obtain ⟨a, dx, fs, rfl, ea, hl⟩ := recv_at x0 w0 hc
  obtain rfl : u = Value.ref a := rv0
  refine getmeth_ok I0 ea c hm hl ?_
  refine PySem.W.callWith_K (first := [.ref a]) (h₀ := X.base) I.ok.mod.kin hm.kp (run_seqA ha I0 x0 r0 hp0 fun ds S1 q1 vs us s1 H1 m1 I1 rv1 e1 x1 w1 r1 hp1 => ⟨I1.kIn, ?_⟩) hst hpl
  have hn := hope_if hp1
  rw [if_pos hn] at hp1
  have ez : lMeth C mn ps.length g dd lo t ρ S = g (d :: (ds ++ dd)) S1 := by unfold lMeth; rw [q0, bind_ok, if_pos hc, q1, bind_ok, if_pos hn]
  rw [ez]
  exact thn (run_fnL (us := .ref a :: us) (vs := .ref a :: vs) (ds := d :: ds) Fn hr hb hd.vals (hd.rel _ _) I1 x1 (.cons rfl rv1) (.cons (w0.ext e1 x0.muts) w1)
    (by rw [List.cons_append, List.length_cons, List.length_append, w1.length, (hd.rel m1 H1).length]; exact hn) hp1) fun _ _ z => z.left (e0.trans e1)
theorem pel_meth0 {pl : Sem Bool} {ds0 : List Value} {dvs : List V} {dd : List D} (c : Cls X.K C) (hm : Meth X.K C mn f) (Fn : FnL X.prog X.w X.K X.mg X.base k f fd ps g) (hr : Room k X.A) (hb : Binds X.K fd ps ds0) (hd : Dfl X.K dvs ds0 dd) (he : PEL X o lo)
    (ht : eval (.Call (.Attribute o mn apos) [] [] pos) X.env = (do
      let ov ← eval o X.env
      standAt apos.atName
      let (f, first) ← holding [ov] (getMethod ov mn pl)
      callWith pos f first (backTo pos (starEach [] X.env)) (backToKw pos (keywordEach [] X.env))) := by rfl) :
    PEL X (.Call (.Attribute o mn apos) [] [] pos) (lMeth C mn ps.length g dd lo aNil) := by
  refine ⟨fun pins s σ H m ρ S I x r hp => ?_⟩
  refine PySem.W.methodCall_KW (pl := pl) (run_seq he I x r hp fun d S0 q0 v u s0 H0 m0 I0 rv0 e0 x0 w0 r0 hp0 => ?_) ht
  have hc := hope_if hp0
  rw [if_pos hc] at hp0
  obtain ⟨a, dx, fs, rfl, ea, hl⟩ := recv_at x0 w0 hc
  obtain rfl : u = Value.ref a := rv0
  refine getmeth_ok I0 ea c hm hl ?_
  have hp1 : Hope X σ m0 H0 (if (([] : List D).length + dd.length) + 1 = ps.length then g (d :: ([] ++ dd)) S0 else .bad) := hp0
  have hn := hope_if hp1
  rw [if_pos hn] at hp1
  have ez : lMeth C mn ps.length g dd lo aNil ρ S = g (d :: ([] ++ dd)) S0 := by
    unfold lMeth; rw [q0, bind_ok, if_pos hc]
    show (if (([] : List D).length + dd.length) + 1 = ps.length then g (d :: ([] ++ dd)) S0 else .bad) = _
    rw [if_pos hn]
  rw [ez]
  exact PySem.W.callWith_K0 (first := [.ref a]) I0.kIn hm.kp (thn (run_fnL (us := [.ref a]) (vs := [.ref a]) (ds := [d]) Fn hr hb hd.vals (hd.rel _ _) I0 x0 (.cons rfl .nil) (.cons w0 .nil)
    (by rw [List.length_append, (hd.rel m0 H0).length]; simp at hn ⊢; omega) hp1) fun _ _ z => z.left e0)
end

/-! ### what nobody can reach any more is let go -/
mutual
def below (n : Nat) : D → Bool
  | .ref i => decide (i < n)
  | .tup xs => belows n xs
  | .ftup xs => belows n xs
  | .lst xs => belows n xs
  | .dct _ kvs => belowd n kvs
  | .obj _ fs => belowf n fs
  | .exn _ fs => belowf n fs
  | _ => true
def belows (n : Nat) : List D → Bool
  | [] => true
  | x :: xs => below n x && belows n xs
def belowd (n : Nat) : List (D × D) → Bool
  | [] => true
  | (_, x) :: xs => below n x && belowd n xs
def belowf (n : Nat) : List (Str × D) → Bool
  | [] => true
  | (_, x) :: xs => below n x && belowf n xs
end
def belowo (n : Nat) : O → Bool
  | .lst xs => belows n xs
  | .dct _ kvs => belowd n kvs
  | .ins _ fs => belowf n fs
section
variable {K : PySem.W.Frag} {m : List Addr} {H : Hp}
mutual
theorem VR.bel {v : V} {d : D} : VR K m H v d → below m.length d = true
  | .non => rfl
  | .bl _ => rfl
  | .int _ => rfl
  | .str _ => rfl
  | .tup _ r => r.bel
  | .ftup _ _ r => r.bel
  | .lst _ _ r => r.bel
  | .lstK _ _ _ _ _ _ r => r.bel
  | .dct _ _ r => r.bel
  | .dctT _ _ r => r.bel
  | .obj _ _ r => r.bel
  | .exn0 _ _ => rfl
  | .exnD _ _ _ _ r => r.bel
  | .ref h => by
    simp only [MP.below]
    exact decide_eq_true (List.getElem?_eq_some_iff.mp h).1
theorem VRs.bel {v : List V} {d : List D} : VRs K m H v d → belows m.length d = true
  | .nil => rfl
  | .cons h r => by simp only [MP.belows, h.bel, r.bel, Bool.and_self]
theorem VFs.bel {v : List (Str × V)} {d : List (Str × D)} : VFs K m H v d → belowf m.length d = true
  | .nil => rfl
  | .cons h r => by simp only [MP.belowf, h.bel, r.bel, Bool.and_self]
theorem VDk.bel {v : List (Key × V)} {d : List (D × D)} : VDk K m H v d → belowd m.length d = true
  | .nil => rfl
  | .cons h r => by simp only [MP.belowd, h.bel, r.bel, Bool.and_self]
theorem VDt.bel {v : List (List Key × V)} {d : List (D × D)} : VDt K m H v d → belowd m.length d = true
  | .nil => rfl
  | .cons h r => by simp only [MP.belowd, h.bel, r.bel, Bool.and_self]
end
variable {l : List Addr}
theorem nin_left {a : Addr} (h : a ∉ m ++ l) : a ∉ m := fun z => h (List.mem_append_left _ z)
mutual
theorem VR.down {v : V} {d : D} : VR K (m ++ l) H v d → MP.below m.length d = true → VR K m H v d
  | .non, _ => .non
  | .bl b, _ => .bl b
  | .int i, _ => .int i
  | .str s, _ => .str s
  | .tup h r, q => .tup h (r.down (by simpa only [MP.below] using q))
  | .ftup hd h r, q => .ftup hd h (r.down (by simpa only [MP.below] using q))
  | .lst n h r, q => .lst (nin_left n) h (r.down (by simpa only [MP.below] using q))
  | .lstK hk h1 h2 h3 h4 h5 r, q => .lstK hk h1 h2 h3 h4 h5 (r.down (by simpa only [MP.below] using q))
  | .dct n h r, q => .dct (nin_left n) h (r.down (by simpa only [MP.below] using q))
  | .dctT n h r, q => .dctT (nin_left n) h (r.down (by simpa only [MP.below] using q))
  | .obj n h r, q => .obj (nin_left n) h (r.down (by simpa only [MP.below] using q))
  | .exn0 n h, q => .exn0 (nin_left n) h
  | .exnD n nd h hd r, q => .exnD (nin_left n) (nin_left nd) h hd (r.down (by simpa only [MP.below] using q))
  | .ref h, q => .ref (by
    simp only [MP.below] at q
    rw [List.getElem?_append_left (of_decide_eq_true q)] at h
    exact h)
theorem VRs.down {v : List V} {d : List D} : VRs K (m ++ l) H v d → MP.belows m.length d = true → VRs K m H v d
  | .nil, _ => .nil
  | .cons h r, q => by
    simp only [MP.belows, Bool.and_eq_true] at q
    exact .cons (h.down q.1) (r.down q.2)
theorem VFs.down {v : List (Str × V)} {d : List (Str × D)} : VFs K (m ++ l) H v d → MP.belowf m.length d = true → VFs K m H v d
  | .nil, _ => .nil
  | .cons h r, q => by
    simp only [MP.belowf, Bool.and_eq_true] at q
    exact .cons (h.down q.1) (r.down q.2)
theorem VDk.down {v : List (Key × V)} {d : List (D × D)} : VDk K (m ++ l) H v d → MP.belowd m.length d = true → VDk K m H v d
  | .nil, _ => .nil
  | .cons h r, q => by
    simp only [MP.belowd, Bool.and_eq_true] at q
    exact .cons (h.down q.1) (r.down q.2)
theorem VDt.down {v : List (List Key × V)} {d : List (D × D)} : VDt K (m ++ l) H v d → MP.belowd m.length d = true → VDt K m H v d
  | .nil, _ => .nil
  | .cons h r, q => by
    simp only [MP.belowd, Bool.and_eq_true] at q
    exact .cons (h.down q.1) (r.down q.2)
end
/-- a place of the store from n on, as what stands there -/
def fz0 (S : Sto) (n : Nat) (d : D) : D := match d with
  | .ref i => if i < n then .ref i else vw S (.ref i)
  | d => d
def fz (S : Sto) (n : Nat) (d : D) : D := match fz0 S n d with
  | .obj C fs => .obj C (fs.map fun q => (q.1, fz0 S n q.2))
  | d => d
theorem nodup_get {xs : List Addr} (h : xs.Nodup) {i j : Nat} {a : Addr} (h1 : xs[i]? = some a) (h2 : xs[j]? = some a) : i = j := by
  obtain ⟨p1, e1⟩ := List.getElem?_eq_some_iff.mp h1
  obtain ⟨p2, e2⟩ := List.getElem?_eq_some_iff.mp h2
  exact (List.getElem_inj h).mp (e1.trans e2.symm)
theorem VR.fz0 {S : Sto} {v : V} {d : D} (x : SR K (m ++ l) H S) (r : VR K (m ++ l) H v d) : ∃ v', v' = v ∧ (VR K (m ++ l) H v (MP.fz0 S m.length d) ∨ (∃ a, v = .ref a ∧ a ∉ m ∧ ∃ ob, OR K (m ++ l) H a ob ∧ MP.fz0 S m.length d = (match ob with
  | .lst xs => .lst xs
  | .dct t kvs => .dct t kvs
  | .ins C fs => .obj C fs))) := by
  refine ⟨v, rfl, ?_⟩
  cases r with
  | @ref i a h =>
    unfold MP.fz0
    by_cases hi : i < m.length
    · dsimp only
      rw [if_pos hi]
      exact .inl (.ref h)
    · dsimp only
      rw [if_neg hi]
      cases q : S[i]? with
      | none =>
        have := (List.getElem?_eq_some_iff.mp h).1
        rw [x.len] at this
        rw [List.getElem?_eq_none_iff] at q
        omega
      | some ob =>
        refine .inr ⟨a, rfl, fun z => ?_, ob, x.at_ i a ob h q, by dsimp only [vw]; rw [q]; cases ob <;> rfl⟩
        obtain ⟨j, hj⟩ := List.mem_iff_getElem?.mp z
        have hj' := (List.getElem?_eq_some_iff.mp hj).1
        have h2 : (m ++ l)[j]? = some a := by rw [List.getElem?_append_left hj']; exact hj
        have := nodup_get x.nd h2 h
        omega
  | non => exact .inl .non
  | bl b => exact .inl (.bl b)
  | int b => exact .inl (.int b)
  | str b => exact .inl (.str b)
  | tup h r => exact .inl (.tup h r)
  | ftup hd h r => exact .inl (.ftup hd h r)
  | lst n h r => exact .inl (.lst n h r)
  | lstK hk h1 h2 h3 h4 h5 r => exact .inl (.lstK hk h1 h2 h3 h4 h5 r)
  | dct n h r => exact .inl (.dct n h r)
  | dctT n h r => exact .inl (.dctT n h r)
  | obj n h r => exact .inl (.obj n h r)
  | exn0 n h => exact .inl (.exn0 n h)
  | exnD n nd h hd r => exact .inl (.exnD n nd h hd r)
end
end MP

namespace MP
open PySem PySem.Spec PyProof.Rows L2

section
variable {K : PySem.W.Frag} {m l : List Addr} {H H' : Hp} {S S' : Sto}
theorem OR.bel {a : Addr} {o : O} (h : OR K m H a o) : belowo m.length o = true := by
  cases h with
  | lst _ r => exact r.bel
  | dct _ r => exact r.bel
  | dctT _ r => exact r.bel
  | ins _ r => exact r.bel
theorem OR.down {a : Addr} {o : O} (h : OR K (m ++ l) H a o) (b : belowo m.length o = true) : OR K m H a o := by
  cases h with
  | lst h r => exact .lst h (r.down b)
  | dct h r => exact .dct h (r.down b)
  | dctT h r => exact .dctT h (r.down b)
  | ins h r => exact .ins h (r.down b)
def snap : O → D
  | .lst xs => .lst xs
  | .dct t kvs => .dct t kvs
  | .ins C fs => .obj C fs
theorem VR.fz0_down {v : V} {d : D} (x : SR K (m ++ l) H S) (r : VR K (m ++ l) H v d) (b : MP.below m.length (MP.fz0 S m.length d) = true) : VR K m H v (MP.fz0 S m.length d) := by
  obtain ⟨_, rfl, q⟩ := VR.fz0 x r
  rcases q with q | ⟨a, rfl, na, ob, q, e⟩
  · exact q.down b
  · rw [e] at b ⊢
    cases q with
    | lst h r => exact .lst na (.inl h) (r.down (by simpa only [MP.below] using b))
    | dct h r => exact .dct na h (r.down (by simpa only [MP.below] using b))
    | dctT h r => exact .dctT na h (r.down (by simpa only [MP.below] using b))
    | ins h r => exact .obj na h (r.down (by simpa only [MP.below] using b))
theorem VFs.fz0_down (x : SR K (m ++ l) H S) : ∀ {vs : List (Str × V)} {ds : List (Str × D)}, VFs K (m ++ l) H vs ds → belowf m.length (ds.map fun q => (q.1, MP.fz0 S m.length q.2)) = true → VFs K m H vs (ds.map fun q => (q.1, MP.fz0 S m.length q.2))
  | _, _, .nil, _ => .nil
  | _, _, .cons h r, q => by
    simp only [List.map_cons, belowf, Bool.and_eq_true] at q
    exact .cons (h.fz0_down x q.1) (VFs.fz0_down x r q.2)
theorem VR.fz_down {v : V} {d : D} (x : SR K (m ++ l) H S) (r : VR K (m ++ l) H v d) (b : MP.below m.length (fz S m.length d) = true) : VR K m H v (fz S m.length d) := by
  unfold fz at b ⊢
  split at b
  · rename_i C fs e
    obtain ⟨_, rfl, q⟩ := VR.fz0 x r
    simp only [MP.below] at b
    rcases q with q | ⟨a, rfl, na, ob, q, e2⟩
    · rw [e] at q
      cases q with
      | obj n h r => exact .obj (nin_left n) h (VFs.fz0_down x r b)
    · rw [e2] at e
      cases q with
      | ins h r => cases e; exact .obj na h (VFs.fz0_down x r b)
      | lst _ _ => cases e
      | dct _ _ => cases e
      | dctT _ _ => cases e
  · exact r.fz0_down x b
/-- a weaker result: less is told, or what nobody reaches any more is let go -/
inductive RLe (S : Sto) : R D → R D → Prop where
  | bad (r : R D) : RLe S .bad r
  | refl (r : R D) : RLe S r r
  | gc (d d' : D) (S' : Sto) (h : S'.take S.length = S) (e : d' = fz S' S.length d) (b : below S.length d' = true) : RLe S (.ok d' S) (.ok d S')
  | gcx (C : Addr) (fs : List (Str × D)) (S' : Sto) (h : S'.take S.length = S) (b : belowf S.length fs = true) : RLe S (.exc C fs S) (.exc C fs S')
theorem sr_gc {m' : List Addr} (x : SR K m H S) (e : Ext m H m' H') (x' : SR K m' H' S') (h : S'.take S.length = S) : SR K m H' S ∧ Ext m H m H' := by
  obtain ⟨l, el⟩ := e.pre
  subst el
  refine ⟨⟨x.nd, x.len, fun i a o h1 h2 => ?_⟩, ⟨[], by simp⟩, fun a h => .inl h, e.keep⟩
  have hi := (List.getElem?_eq_some_iff.mp h1).1
  have hs := (List.getElem?_eq_some_iff.mp h2).1
  refine (x'.at_ i a o (by rw [List.getElem?_append_left hi]; exact h1) ?_).down (x.at_ i a o h1 h2).bel
  rw [← h, List.getElem?_take] at h2
  rw [if_pos hs] at h2
  exact h2
theorem qv_gc {d : D} {v : V} (x : SR K m H S) (q : QV K m H S' d v H') (h : S'.take S.length = S) (b : below S.length (fz S' S.length d) = true) : QV K m H S (fz S' S.length d) v H' := by
  obtain ⟨m', e, x', w⟩ := q
  obtain ⟨y1, y2⟩ := sr_gc x e x' h
  obtain ⟨l, el⟩ := e.pre
  subst el
  rw [← x.len] at b ⊢
  exact ⟨m, y2, y1, w.fz_down x' b⟩
theorem wl_gc {C : Addr} {fs : List (Str × D)} {cls : Value} {dd : Option Addr} (x : SR K m H S) (q : WL K m H C fs S' cls dd H') (h : S'.take S.length = S) (b : belowf S.length fs = true) : WL K m H C fs S cls dd H' := by
  obtain ⟨h1, a, vs, m', h2, h3, e, x', w⟩ := q
  obtain ⟨y1, y2⟩ := sr_gc x e x' h
  obtain ⟨l, el⟩ := e.pre
  subst el
  rw [← x.len] at b
  exact ⟨h1, a, vs, m, h2, h3, y2, y1, w.down b⟩
end
theorem FnL.le {P : Program} {w : World} {K : PySem.W.Frag} {mg : Str → Option Value} {base : Heap} {k : Nat} {f : Addr} {fd : FuncData} {ps : List Str} {g g' : F} (h : FnL P w K mg base k f fd ps g) (hle : ∀ ds S, ds.length = ps.length → RLe S (g' ds S) (g ds S)) : FnL P w K mg base k f fd ps g' := by
  refine FnOk.imp h fun vs H Q E ⟨hl, m, S, ds, x, r, nb, q1, q2⟩ => ⟨hl, m, S, ds, x, r, ?_⟩
  have z := hle ds S (by rw [← r.length]; exact hl)
  generalize hA : g' ds S = A at z nb q1 q2
  generalize hB : g ds S = B at z
  cases z with
  | bad r => exact absurd rfl nb
  | refl r => exact ⟨nb, q1, q2⟩
  | gc d d' S' h e b =>
    subst e
    refine ⟨fun z => (nomatch z), fun d1 S1 e v H' qv => ?_, fun C fs S1 e => (nomatch e)⟩
    cases e
    exact q1 _ _ rfl v H' (qv_gc x qv h b)
  | gcx C fs S' h b =>
    refine ⟨fun z => (nomatch z), fun d1 S1 e => (nomatch e), fun C1 fs1 S1 e cls dd H' wl => ?_⟩
    cases e
    exact q2 _ _ _ rfl cls dd H' (wl_gc x wl h b)

/-! ### a new object -/
section
variable {X : Cx} {e : Expr} {pos p : Pos} {es : List Expr} {t : LA} {x : Str} {k : Nat} {f C : Addr} {fd : FuncData} {ps : List Str} {g : F}
/-- what comes of C(..) by its __init__ -/
def mkF (C : Addr) (g : F) : F := fun ds S => (g (.ref S.length :: ds) (S ++ [.ins C []])).bind fun d S1 => match d with
  | .non => .ok (.ref S.length) S1
  | _ => .bad
theorem run_makeL {pins : List (Addr × Obj)} {σ : L2.St} {H : Hp} {s : Shared} {us ds0 : List Value} {vs dvs : List V} {m : List Addr} {S : Sto} {ds dd : List D} {gn : F} (M : Mk X.K C f) (Fn : FnL X.prog X.w X.K X.mg X.base k f fd ps g) (hr : Room (k + 1) X.A) (hb : Binds X.K fd ps ds0) (hd : Vals dvs ds0) (hdd : VRs X.K m H dvs dd)
    (I : Inv X pins σ H s) (x : SR X.K m H S) (r : Vals vs us) (rd : VRs X.K m H vs ds) (hl : (vs ++ dvs).length + 1 = ps.length) (hg : RLe S (gn (ds ++ dd) S) (mkF C g (ds ++ dd) S)) (hp : Hope X σ m H (gn (ds ++ dd) S)) :
    wpAny (model X.prog X.w) X.A (call (.ref C) us) (VPr X pins σ m H (gn (ds ++ dd) S)) X.xe s := by
  -- the instance stands at pa, its dict at pd
  obtain ⟨pd, hpd⟩ : ∃ a, a = s.heap.objs.size := ⟨_, rfl⟩
  obtain ⟨pa, hpa⟩ : ∃ a, a = s.heap.objs.size + 1 := ⟨_, rfl⟩
  have n1 : H pa = none := hpa ▸ I.hok.fresh (Nat.le_succ _)
  have n2 : H pd = none := hpd ▸ I.hok.fresh (Nat.le_refl _)
  have ne : pa ≠ pd := by omega
  have I2 := Inv.made (C := C) I
  rw [← hpa, ← hpd] at I2
  have r2 : Vals (V.ref pa :: (vs ++ dvs)) (Value.ref pa :: (us ++ ds0)) := .cons rfl (r.append hd)
  have n1' : (upd H pd (.own pa)) pa = none := by rw [upd_ne ne]; exact n1
  have x1 : SR X.K m (upd H pd (.own pa)) S := x.fresh n2
  have E1 : Ext m H m (upd H pd (.own pa)) := Ext.fresh n2
  obtain ⟨E2, x2⟩ := x1.snoc (o := .ins C pd []) (ob := .ins C []) n1' fun m' H' _ q => .ins q .nil
  have E3 := E1.trans E2
  have rd2 : VRs X.K (m ++ [pa]) (upd (upd H pd (.own pa)) pa (.ins C pd [])) (V.ref pa :: (vs ++ dvs)) (D.ref S.length :: (ds ++ dd)) := .cons (.ref (by rw [← x.len]; simp)) ((rd.append hdd).ext E3 x.muts)
  have nb : mkF C g (ds ++ dd) S ≠ .bad := fun z => by
    rw [z] at hg
    generalize gn (ds ++ dd) S = A at hg hp
    cases hg with
    | bad => exact hp.1 rfl
    | refl => exact hp.1 rfl
  have hsp : spL X.K g ps.length (V.ref pa :: (vs ++ dvs)) (upd (upd H pd (.own pa)) pa (.ins C pd [])) (fun v H' => ∃ d S', g (.ref S.length :: (ds ++ dd)) (S ++ [.ins C []]) = .ok d S' ∧ QV X.K (m ++ [pa]) (upd (upd H pd (.own pa)) pa (.ins C pd [])) S' d v H')
      (fun cls d H' => ∃ C' fs S', g (.ref S.length :: (ds ++ dd)) (S ++ [.ins C []]) = .exc C' fs S' ∧ WL X.K (m ++ [pa]) (upd (upd H pd (.own pa)) pa (.ins C pd [])) C' fs S' cls d H') :=
    ⟨by rw [List.length_cons]; exact hl, _, _, _, x2, rd2, fun z => nb (by unfold mkF; rw [z]; rfl), fun d S' q v H' z => ⟨d, S', q, z⟩, fun C' fs S' q cls d H' z => ⟨C', fs, S', q, z⟩⟩
  have hl2 : (Value.ref pa :: us ++ ds0).length = ps.length := by rw [List.cons_append, ← r2.length, List.length_cons]; exact hl
  refine wpAny_call (make_map (f := f) I.kIn M.makes M.init (beq_iff_eq.mp M.fn) ?_)
  rw [← hpa, ← hpd]
  refine codeAny_mono (Fn.run _ X.stack _ _ ⟨Value.ref pa :: us, []⟩ (Value.ref pa :: (us ++ ds0)) _ _ _ (hr.make C us []) (I2.env0.make C us []) (hb _ (Value.ref pa :: us) I2.kIn hl2) r2 hsp) fun r s' hq => ?_
  cases r with
  | error e =>
    obtain ⟨C', fs, S', q, w0⟩ : ∃ C' fs S', g (.ref S.length :: (ds ++ dd)) (S ++ [.ins C []]) = .exc C' fs S' ∧ XE X (fun cls d σ' H' => σ' = σ ∧ WL X.K m H C' fs S' cls d H') e s' := by
      have hx := XE.of_call (W := fun cls d σ' H' => σ' = σ ∧ ∃ C' fs S', g (.ref S.length :: (ds ++ dd)) (S ++ [.ins C []]) = .exc C' fs S' ∧ WL X.K m H C' fs S' cls d H') I2 (fun cls d H' w => by
        obtain ⟨C', fs, S', q, w⟩ := w
        exact ⟨rfl, C', fs, S', q, w.ext E3⟩) hq
      obtain ⟨_, _, _, _, _, _, _, _, _, _, _, _, _, _, _, _, _, C', fs, S', q, _⟩ := id hx
      refine ⟨C', fs, S', q, XE.imp hx fun cls d σ' H' w => ?_⟩
      obtain ⟨w1, C2, fs2, S2, q2, w2⟩ := w
      rw [q] at q2
      cases q2
      exact ⟨w1, w2⟩
    have e0 : mkF C g (ds ++ dd) S = .exc C' fs S' := by unfold mkF; rw [q]; rfl
    rw [e0] at hg
    generalize hA : gn (ds ++ dd) S = A at hg hp
    cases hg with
    | bad => exact absurd rfl hp.1
    | refl => exact hp.2 _ _ _ rfl e s' w0
    | gcx _ _ _ h b => exact hp.2 _ _ _ rfl e s' (XE.imp w0 fun cls d σ' H' w => ⟨w.1, wl_gc x w.2 h b⟩)
  | ok fl =>
    cases fl with
    | ret u =>
      obtain ⟨v, H', I3, rv, d, S', q, m', e', x', w'⟩ := I2.after hq
      have hn : d = .non := by
        cases d with
        | non => rfl
        | _ => exact absurd (by unfold mkF; rw [q]; rfl) nb
      subst hn
      cases w'
      obtain rfl : u = Value.none := rv
      have e0 : mkF C g (ds ++ dd) S = .ok (.ref S.length) S' := by unfold mkF; rw [q]; rfl
      have qv : QV X.K m H S' (.ref S.length) (.ref pa) H' := ⟨m', E3.trans e', x', .ref (e'.get (by rw [← x.len]; simp))⟩
      refine ⟨rfl, ?_⟩
      rw [e0] at hg
      generalize hA : gn (ds ++ dd) S = A at hg hp
      cases hg with
      | bad => exact absurd rfl hp.1
      | refl =>
        obtain ⟨m2, z1, z2, z3⟩ := qv
        exact ⟨_, _, rfl, .ref pa, H', m2, I3, rfl, z1, z2, z3⟩
      | gc _ _ _ h e b =>
        subst e
        obtain ⟨m2, z1, z2, z3⟩ := qv_gc x qv h b
        exact ⟨_, _, rfl, .ref pa, H', m2, I3, rfl, z1, z2, z3⟩
    | next => exact False.elim hq
    | brk => exact False.elim hq
    | cont => exact False.elim hq
theorem pel_make {n : Nat} {ds0 : List Value} {dvs : List V} {dd : List D} {gn : F} (M : Mk X.K C f) (Fn : FnL X.prog X.w X.K X.mg X.base k f fd ps g) (hle : ∀ ds S, RLe S (gn ds S) (mkF C g ds S)) (hr : Room (k + 1) X.A) (hg : Gl X x) (hm : X.mg x = some (.ref C)) (hb : Binds X.K fd ps ds0) (hd : Dfl X.K dvs ds0 dd)
    (ha : PAL X (e :: es) t) (hdb : (x == ("__debug__" : Str)) = false := by decide) (he : starEach (e :: es) X.env = (false, eval e X.env) :: starEach es X.env := by rfl) (hpl : (backTo pos (starEach es X.env)).any (·.1) = false := by rfl) (hps : ps.length = n + 1 := by rfl) :
    PEL X (.Call (.Name x p) (e :: es) [] pos) (lCall n gn dd t) := by
  refine ⟨fun pins s σ H m ρ S I x r hp => ?_⟩
  refine wpAny_Call_Name_kw (ld_glob I hg hm ?_ hdb)
  refine PySem.W.callWith_K (h₀ := X.base) I.ok.mod.kin M.kp (run_seqA ha I x r hp fun ds S1 q1 vs us s1 H1 m1 I1 rv e1 x1 w1 r1 hp1 => ⟨I1.kIn, ?_⟩) he hpl
  have hl := hope_if hp1
  rw [if_pos hl] at hp1
  have e0 : lCall n gn dd t ρ S = gn (ds ++ dd) S1 := by unfold lCall; rw [q1, bind_ok, if_pos hl]
  rw [e0]
  exact thn (run_makeL M Fn hr hb hd.vals (hd.rel _ _) I1 x1 rv w1 (by rw [List.length_append, w1.length, (hd.rel m1 H1).length]; omega) (hle _ _) hp1) fun _ _ z => z.left e1
end
end MP

namespace MP
open PySem PySem.Spec PyProof.Rows L2

/-! ### readings of the layer beneath -/
/-- no exception -/
def tL0 (K : PySem.W.Frag) (l : LE) : TE := fun σ H Q => ∃ m ρ S, SR K m H S ∧ ER K m H σ ρ ∧ ∃ d S', l ρ S = .ok d S' ∧ ∀ v H', QV K m H S' d v H' → Q v H'
def tT0 (K : PySem.W.Frag) (l : LT) : TT := fun σ H Q => ∃ m ρ S, SR K m H S ∧ ER K m H σ ρ ∧ ∃ b S', l ρ S = .ok b S' ∧ ∀ H' m', Ext m H m' H' → SR K m' H' S' → Q b H'
theorem PEL.pe {X : Cx} {e : Expr} {l : LE} (h : PEL X e l) : PE X e (tL0 X.K l) := by
  refine ⟨fun pins s σ H Q I ⟨m, ρ, S, x, r, d, S', q, k⟩ => ?_⟩
  have z := h.run pins s σ H m ρ S I x r (by rw [q]; exact Hope.ok)
  rw [q] at z
  refine thn z fun u s' ⟨d', S2, e, v, H', m', I', rv, e', x', w⟩ => ?_
  cases e
  exact ⟨v, H', I', rv, k v H' ⟨m', e', x', w⟩⟩
theorem PTL.pt {X : Cx} {e : Expr} {l : LT} (h : PTL X e l) : PT X e (tT0 X.K l) := by
  refine ⟨fun pins s σ H Q I ⟨m, ρ, S, x, r, d, S', q, k⟩ => ?_⟩
  have z := h.run pins s σ H m ρ S I x r (by rw [q]; exact Hope.ok)
  rw [q] at z
  refine thn z fun u s' ⟨S2, H', m', e, I', e', x'⟩ => ?_
  cases e
  exact ⟨H', I', k H' m' e' x'⟩
theorem PEL.of_pe {X : Cx} {e : Expr} {l : LE} {t : TE} (h : PE X e t) (ht : ∀ σ H m ρ S, SR X.K m H S → ER X.K m H σ ρ → Hope X σ m H (l ρ S) → t σ H (fun v H' => ∃ d S', l ρ S = .ok d S' ∧ QV X.K m H S' d v H')) : PEL X e l :=
  ⟨fun pins s σ H m ρ S I x r hp => thn (h.run pins s σ H _ I (ht σ H m ρ S x r hp)) fun u s' ⟨v, H', I', rv, d, S', q, m', e, x', w⟩ => ⟨d, S', q, v, H', m', I', rv, e, x', w⟩⟩

/-! ### statements -/
inductive Fl where
  | nx (ρ : Ev) | rt (d : D) | bk (ρ : Ev) | ct (ρ : Ev) | ex (C : Addr) (fs : List (Str × D)) (ρ : Ev)
abbrev LS := Ev → Sto → R Fl
/-- behind: slots and heap by the store -/
def SV (K : PySem.W.Frag) (m : List Addr) (H : Hp) (ρ' : Ev) (S' : Sto) (σ' : L2.St) (H' : Hp) : Prop := ∃ m', Ext m H m' H' ∧ SR K m' H' S' ∧ ER K m' H' σ' ρ' ∧ ρ'.length = σ'.length
def WS (K : PySem.W.Frag) (m : List Addr) (H : Hp) (C : Addr) (fs : List (Str × D)) (ρ' : Ev) (S' : Sto) : WX := fun cls d σ' H' =>
  cls = .ref C ∧ ∃ (dd : Addr) (vs : List (Str × V)) (m' : List Addr), d = some dd ∧ H' dd = some (.xd vs) ∧ Ext m H m' H' ∧ SR K m' H' S' ∧ VFs K m' H' vs fs ∧ ER K m' H' σ' ρ' ∧ ρ'.length = σ'.length
/-- the reading: what is wanted at each of the ways out -/
structure HS (X : Cx) (D : Ends) (m : List Addr) (H : Hp) (r : R Fl) : Prop where
  ok : ∃ fl S', r = .ok fl S'
  nx : ∀ ρ' S', r = .ok (.nx ρ') S' → ∀ σ' H', SV X.K m H ρ' S' σ' H' → D.nx σ' H'
  rt : ∀ d S', r = .ok (.rt d) S' → ∀ v H', QV X.K m H S' d v H' → D.rt v H'
  bk : ∀ ρ' S', r = .ok (.bk ρ') S' → ∀ σ' H', SV X.K m H ρ' S' σ' H' → D.bk σ' H'
  ct : ∀ ρ' S', r = .ok (.ct ρ') S' → ∀ σ' H', SV X.K m H ρ' S' σ' H' → D.ct σ' H'
  ex : ∀ C fs ρ' S', r = .ok (.ex C fs ρ') S' → ∀ u s', XE X (WS X.K m H C fs ρ' S') u s' → X.xe u s'
def tSL (X : Cx) (l : LS) : TS := fun D σ H => ∃ m ρ S, SR X.K m H S ∧ ER X.K m H σ ρ ∧ ρ.length = σ.length ∧ HS X D m H (l ρ S)
def PSL (X : Cx) (st : Stmt) (l : LS) : Prop := PS X st (tSL X l)
def PSsL (X : Cx) (st : List Stmt) (l : LS) : Prop := PSs X st (tSL X l)
section
variable {X : Cx} {D : Ends} {m m1 : List Addr} {H H1 : Hp} {r : R Fl} {σ : L2.St} {ρ : Ev} {S S1 : Sto}
theorem SV.left {K : PySem.W.Frag} {ρ' : Ev} {S' : Sto} {σ' : L2.St} {H' : Hp} (e : Ext m H m1 H1) (h : SV K m1 H1 ρ' S' σ' H') : SV K m H ρ' S' σ' H' := by
  obtain ⟨m', e', a, b, c⟩ := h
  exact ⟨m', e.trans e', a, b, c⟩
theorem QV.left {K : PySem.W.Frag} {d : MP.D} {S' : Sto} {v : V} {H' : Hp} (e : Ext m H m1 H1) (h : QV K m1 H1 S' d v H') : QV K m H S' d v H' := by
  obtain ⟨m', e', a, b⟩ := h
  exact ⟨m', e.trans e', a, b⟩
theorem WS.left {K : PySem.W.Frag} {C : Addr} {fs : List (Str × MP.D)} {ρ' : Ev} {S' : Sto} {cls : Value} {d : Option Addr} {σ' : L2.St} {H' : Hp} (e : Ext m H m1 H1) (h : WS K m1 H1 C fs ρ' S' cls d σ' H') : WS K m H C fs ρ' S' cls d σ' H' := by
  obtain ⟨h1, dd, vs, m', h2, h3, h4, h5⟩ := h
  exact ⟨h1, dd, vs, m', h2, h3, e.trans h4, h5⟩
theorem HS.ext (h : HS X D m H r) (e : Ext m H m1 H1) : HS X D m1 H1 r :=
  ⟨h.ok, fun ρ' S' q σ' H' z => h.nx ρ' S' q σ' H' (z.left e), fun d S' q v H' z => h.rt d S' q v H' (z.left e), fun ρ' S' q σ' H' z => h.bk ρ' S' q σ' H' (z.left e), fun ρ' S' q σ' H' z => h.ct ρ' S' q σ' H' (z.left e),
    fun C fs ρ' S' q u s' z => h.ex C fs ρ' S' q u s' (XE.imp z fun _ _ _ _ w => w.left e)⟩
/-- an exception of an expression is one of the statement -/
def liftX {α : Type} (ρ : Ev) (r : R α) (f : α → Sto → R Fl) : R Fl := match r with
  | .ok a S => f a S
  | .exc C fs S => .ok (.ex C fs ρ) S
  | .bad => .bad
theorem HS.hope {α : Type} {r : R α} {f : α → Sto → R Fl} (h : HS X D m H (liftX ρ r f)) (er : ER X.K m H σ ρ) (hl : ρ.length = σ.length) (x : SR X.K m H S) : Hope X σ m H r := by
  cases r with
  | bad => obtain ⟨fl, S', q⟩ := h.ok; cases q
  | ok a S => exact Hope.ok
  | exc C fs S' =>
    refine ⟨fun z => (nomatch z), fun C' fs' S'' q u s' z => ?_⟩
    cases q
    refine h.ex C fs ρ S' rfl u s' (XE.imp z fun cls d σ' H' w => ?_)
    obtain ⟨w0, w1, dd, vs, m', w2, w3, w4, w5, w6⟩ := w
    subst w0
    exact ⟨w1, dd, vs, m', w2, w3, w4, w5, w6, er.ext w4 x.muts, hl⟩
/-- an expression in a statement: what is told of it -/
theorem expr_in {e : Expr} {l : LE} (h : PEL X e l) {pins : List (Addr × Obj)} {s : Shared} (I : Inv X pins σ H s) (x : SR X.K m H S) (er : ER X.K m H σ ρ) (hl : ρ.length = σ.length) {f : MP.D → Sto → R Fl} (hs : HS X D m H (liftX ρ (l ρ S) f)) {Q : Value → Shared → Prop}
    (k : ∀ d S1, l ρ S = .ok d S1 → ∀ v u s1 H1 m1, Inv X pins σ H1 s1 → RelV v u → Ext m H m1 H1 → SR X.K m1 H1 S1 → VR X.K m1 H1 v d → ER X.K m1 H1 σ ρ → HS X D m1 H1 (f d S1) → Q u s1) :
    wpAny (model X.prog X.w) X.A (eval e X.env) Q X.xe s := by
  refine thn (h.run pins s σ H m ρ S I x er (hs.hope er hl x)) fun u s1 ⟨d, S1, q, v, H1, m1, I1, rv, e1, x1, w⟩ => ?_
  rw [q] at hs
  exact k d S1 q v u s1 H1 m1 I1 rv e1 x1 w (er.ext e1 x.muts) (HS.ext hs e1)
theorem test_in {e : Expr} {l : LT} (h : PTL X e l) {pins : List (Addr × Obj)} {s : Shared} (I : Inv X pins σ H s) (x : SR X.K m H S) (er : ER X.K m H σ ρ) (hl : ρ.length = σ.length) {f : Bool → Sto → R Fl} (hs : HS X D m H (liftX ρ (l ρ S) f)) {Q : Bool → Shared → Prop}
    (k : ∀ b S1, l ρ S = .ok b S1 → ∀ s1 H1 m1, Inv X pins σ H1 s1 → Ext m H m1 H1 → SR X.K m1 H1 S1 → ER X.K m1 H1 σ ρ → HS X D m1 H1 (f b S1) → Q b s1) :
    wpAny (model X.prog X.w) X.A (isTrue e X.env (eval e X.env)) Q X.xe s := by
  refine thn (h.run pins s σ H m ρ S I x er (hs.hope er hl x)) fun u s1 ⟨S1, H1, m1, q, I1, e1, x1⟩ => ?_
  rw [q] at hs
  exact k u S1 q s1 H1 m1 I1 e1 x1 (er.ext e1 x.muts) (HS.ext hs e1)
theorem sv_same (x : SR X.K m H S) (er : ER X.K m H σ ρ) (hl : ρ.length = σ.length) : SV X.K m H ρ S σ H := ⟨m, Ext.refl, x, er, hl⟩
end

section
variable {X : Cx} {st : Stmt} {rest : List Stmt} {l l' l1 l2 : LS} {e o i c : Expr} {le lo li : LE} {tc : LT} {pos pos' : Pos} {x : Str}
def lNext : LS := fun ρ S => .ok (.nx ρ) S
def Fl.go (l2 : LS) (fl : Fl) (S1 : Sto) : R Fl := match fl with
  | .nx ρ1 => l2 ρ1 S1
  | fl => .ok fl S1
def lSeq (l1 l2 : LS) : LS := fun ρ S => (l1 ρ S).bind (Fl.go l2)
theorem pss_imp {sts : List Stmt} {t u : TS} (h : PSs X sts t) (k : ∀ D σ H, u D σ H → t D σ H) : PSs X sts u := ⟨fun pins s σ H D I q => h.run pins s σ H D I (k D σ H q)⟩
theorem ps_imp {st : Stmt} {t u : TS} (h : PS X st t) (k : ∀ D σ H, u D σ H → t D σ H) : PS X st u := ⟨fun pins s σ H D I q => h.run pins s σ H D I (k D σ H q)⟩
theorem pssl_nil : PSsL X [] lNext := pss_imp pss_nil fun D σ H ⟨m, ρ, S, x, er, hl, h⟩ => h.nx ρ S rfl σ H (sv_same x er hl)
theorem pssl_one (h : PSL X st l) : PSsL X [st] l := pss_one h
theorem bind_nbad {α β : Type} {r : R α} {f : α → Sto → R β} {b : β} {S' : Sto} (h : r.bind f = .ok b S') : ∃ a S, r = .ok a S ∧ f a S = .ok b S' := by
  cases r with
  | ok a S => exact ⟨a, S, rfl, h⟩
  | exc _ _ _ => cases h
  | bad => cases h
theorem HS.seq {D : Ends} {m : List Addr} {H : Hp} {ρ : Ev} {S : Sto} (h : HS X D m H (lSeq l1 l2 ρ S)) : HS X { D with nx := fun σ' H' => tSL X l2 D σ' H' } m H (l1 ρ S) := by
  obtain ⟨fl, S', q⟩ := h.ok
  obtain ⟨a, S1, q1, q2⟩ := bind_nbad q
  have key : lSeq l1 l2 ρ S = Fl.go l2 a S1 := by unfold lSeq; rw [q1]; rfl
  refine ⟨⟨a, S1, q1⟩, fun ρ' S2 e σ' H' z => ?_, fun d S2 e v H' z => ?_, fun ρ' S2 e σ' H' z => ?_, fun ρ' S2 e σ' H' z => ?_, fun C fs ρ' S2 e u s' z => ?_⟩
  · rw [q1] at e
    cases e
    obtain ⟨m', e', x', er', hl'⟩ := z
    rw [key] at h
    exact ⟨m', ρ', S1, x', er', hl', HS.ext h e'⟩
  · rw [q1] at e
    cases e
    exact h.rt d S1 key v H' z
  · rw [q1] at e
    cases e
    exact h.bk ρ' S1 key σ' H' z
  · rw [q1] at e
    cases e
    exact h.ct ρ' S1 key σ' H' z
  · rw [q1] at e
    cases e
    exact h.ex C fs ρ' S1 key u s' z
theorem pssl_cons (h1 : PSL X st l1) (h2 : PSsL X rest l2) : PSsL X (st :: rest) (lSeq l1 l2) :=
  pss_imp (pss_cons h1 h2) fun D σ H ⟨m, ρ, S, x, er, hl, h⟩ => ⟨m, ρ, S, x, er, hl, h.seq⟩
def lBrk : LS := fun ρ S => .ok (.bk ρ) S
def lCont : LS := fun ρ S => .ok (.ct ρ) S
/-- an expression whose value is dropped -/
def lExpr (le : LE) : LS := fun ρ S => liftX ρ (le ρ S) fun _ S1 => .ok (.nx ρ) S1
theorem psl_expr (he : PEL X e le) (hs : swapsWith e none pos.line X.env = pure false := by rfl) : PSL X (.Expr e pos) (lExpr le) := by
  refine ⟨fun pins s σ H D I ⟨m, ρ, S, x, er, hl, h⟩ => ?_⟩
  exact wpAny_Expr_any (expr_in he I x er hl h fun d S1 q v u s1 H1 m1 I1 rv e1 x1 w er1 h1 => ⟨σ, H1, I1, h1.nx ρ S1 rfl σ H1 (sv_same x1 er1 hl)⟩) I.quiet hs
def lRet (le : LE) : LS := fun ρ S => liftX ρ (le ρ S) fun d S1 => .ok (.rt d) S1
theorem psl_ret (he : PEL X e le) : PSL X (.Return (some e) pos) (lRet le) := by
  refine ⟨fun pins s σ H D I ⟨m, ρ, S, x, er, hl, h⟩ => ?_⟩
  exact wpAny_Return_some (expr_in he I x er hl h fun d S1 q v u s1 H1 m1 I1 rv e1 x1 w er1 h1 => ⟨v, σ, H1, I1, rv, h1.rt d S1 rfl v H1 (qv_same x1 w)⟩)
def lRetN : LS := fun _ S => .ok (.rt .non) S
def lIfS (tc : LT) (l1 l2 : LS) : LS := fun ρ S => liftX ρ (tc ρ S) fun b S1 => if b = true then l1 ρ S1 else l2 ρ S1
theorem psl_if {a b : List Stmt} (hc : PTL X c tc) (ha : PSsL X a l1) (hb : PSsL X b l2) : PSL X (.If c a b pos) (lIfS tc l1 l2) := by
  refine ⟨fun pins s σ H D I ⟨m, ρ, S, x, er, hl, h⟩ => ?_⟩
  refine wpAny_If (test_in hc I x er hl h fun k S1 q s1 H1 m1 I1 e1 x1 er1 h1 => ?_)
  cases k with
  | true => exact ha.run pins s1 σ H1 D I1 ⟨m1, ρ, S1, x1, er1, hl, h1⟩
  | false => exact hb.run pins s1 σ H1 D I1 ⟨m1, ρ, S1, x1, er1, hl, h1⟩
/-- name = e -/
def lSet (i : Nat) (le : LE) : LS := fun ρ S => liftX ρ (le ρ S) fun d S1 => .ok (.nx (ρ.set i (some d))) S1
theorem psl_set {i : Nat} (hN : X.N.Nodup) (he : PEL X e le) (hi : X.N[i]? = some x := by rfl) (hx : Loc X.env.scope x := by first | exact .inl rfl | exact .inr rfl) (hs : swapsWith e (some (.Name x pos')) pos.line X.env = pure false := by rfl) (hf : X.fn x = true ∨ X.env.scope.names.lookup x = some .local := by first | exact .inl rfl | exact .inr rfl | assumption) :
    PSL X (.Assign [.Name x pos'] e pos) (lSet i le) := by
  refine ⟨fun pins s σ H D I ⟨m, ρ, S, x0, er, hl, h⟩ => ?_⟩
  refine wpAny_Assign_Name (expr_in he I x0 er hl h fun d S1 q v u s1 H1 m1 I1 rv e1 x1 w er1 h1 => ?_) hs
  exact store_ok I1 hN hi hx rv (fun s2 I2 => ⟨_, H1, I2, h1.nx _ S1 rfl _ H1 ⟨m1, Ext.refl, x1, er1.set w, by simp [hl]⟩⟩) hf
end
end MP

namespace MP
open PySem PySem.Spec PyProof.Rows L2

/-! ### while -/
def tTX (X : Cx) (l : LT) : TT := fun σ H Q => ∃ m ρ S, SR X.K m H S ∧ ER X.K m H σ ρ ∧ Hope X σ m H (l ρ S) ∧ ∀ b S', l ρ S = .ok b S' → ∀ H' m', Ext m H m' H' → SR X.K m' H' S' → Q b H'
theorem PTL.ptx {X : Cx} {e : Expr} {l : LT} (h : PTL X e l) : PT X e (tTX X l) := by
  refine ⟨fun pins s σ H Q I ⟨m, ρ, S, x, r, hp, k⟩ => ?_⟩
  exact thn (h.run pins s σ H m ρ S I x r hp) fun u s' ⟨S2, H', m', e, I', e', x'⟩ => ⟨H', I', k u S2 e H' m' e' x'⟩
/-- a loop's turn forgets what was not there ahead of the loop -/
def wk : Ev → Ev → Ev
  | _, [] => []
  | [], _ :: bs => none :: wk [] bs
  | none :: as, _ :: bs => none :: wk as bs
  | some _ :: as, b :: bs => b :: wk as bs
theorem wk_length : ∀ (as bs : Ev), (wk as bs).length = bs.length
  | _, [] => by cases ‹Ev› <;> rfl
  | [], _ :: bs => by simp [wk, wk_length]
  | none :: as, _ :: bs => by simp [wk, wk_length]
  | some _ :: as, b :: bs => by simp [wk, wk_length]
theorem wk_some : ∀ {as bs : Ev} {i : Nat} {d : D}, (wk as bs)[i]? = some (some d) → bs[i]? = some (some d)
  | as, [], i, d, h => by cases as <;> simp [wk] at h
  | [], b :: bs, 0, d, h => by simp [wk] at h
  | [], b :: bs, i + 1, d, h => by
    simp only [wk, List.getElem?_cons_succ] at h ⊢
    exact wk_some h
  | none :: as, b :: bs, 0, d, h => by simp [wk] at h
  | none :: as, b :: bs, i + 1, d, h => by
    simp only [wk, List.getElem?_cons_succ] at h ⊢
    exact wk_some h
  | some _ :: as, b :: bs, 0, d, h => by simpa [wk] using h
  | some _ :: as, b :: bs, i + 1, d, h => by
    simp only [wk, List.getElem?_cons_succ] at h ⊢
    exact wk_some h
theorem SV.wk {K : PySem.W.Frag} {m : List Addr} {H : Hp} {ρ' : Ev} {S' : Sto} {σ' : L2.St} {H' : Hp} (ρ0 : Ev) (h : SV K m H ρ' S' σ' H') : SV K m H (MP.wk ρ0 ρ') S' σ' H' := by
  obtain ⟨m', a, b, c, d⟩ := h
  exact ⟨m', a, b, ⟨fun i x e => c.at_ i x (wk_some e), by rw [wk_length]; exact d⟩, by rw [wk_length]; exact d⟩
def Fl.loop (ρ0 : Ev) (k : LS) (fl : Fl) (S : Sto) : R Fl := match fl with
  | .nx ρ => k (wk ρ0 ρ) S
  | .ct ρ => k (wk ρ0 ρ) S
  | .bk ρ => .ok (.nx (wk ρ0 ρ)) S
  | fl => .ok fl S
def whileG (ρ0 : Ev) (tc : LT) (lb : LS) : Nat → LS
  | 0 => fun _ _ => .bad
  | n + 1 => fun ρ S => liftX ρ (tc ρ S) fun b S1 => if b = true then (lb ρ S1).bind (Fl.loop ρ0 (whileG ρ0 tc lb n)) else .ok (.nx ρ) S1
def lWhile (n : Nat) (tc : LT) (lb : LS) : LS := fun ρ S => whileG ρ tc lb n ρ S
theorem HS.loop {X : Cx} {D : Ends} {m : List Addr} {H : Hp} {l k : LS} {ρ ρ0 : Ev} {S : Sto} (h : HS X D m H ((l ρ S).bind (Fl.loop ρ0 k))) : HS X { D with nx := fun σ' H' => tSL X k D σ' H', ct := fun σ' H' => tSL X k D σ' H', bk := D.nx } m H (l ρ S) := by
  obtain ⟨fl, S', q⟩ := h.ok
  obtain ⟨a, S1, q1, q2⟩ := bind_nbad q
  have key : (l ρ S).bind (Fl.loop ρ0 k) = Fl.loop ρ0 k a S1 := by rw [q1]; rfl
  rw [key] at h
  refine ⟨⟨a, S1, q1⟩, fun ρ' S2 e σ' H' z => ?_, fun d S2 e v H' z => ?_, fun ρ' S2 e σ' H' z => ?_, fun ρ' S2 e σ' H' z => ?_, fun C fs ρ' S2 e u s' z => ?_⟩
  · rw [q1] at e
    cases e
    obtain ⟨m', e', x', er', hl'⟩ := z.wk ρ0
    exact ⟨m', _, S1, x', er', hl', HS.ext h e'⟩
  · rw [q1] at e
    cases e
    exact h.rt d S1 rfl v H' z
  · rw [q1] at e
    cases e
    exact h.nx _ S1 rfl σ' H' (z.wk ρ0)
  · rw [q1] at e
    cases e
    obtain ⟨m', e', x', er', hl'⟩ := z.wk ρ0
    exact ⟨m', _, S1, x', er', hl', HS.ext h e'⟩
  · rw [q1] at e
    cases e
    exact h.ex C fs ρ' S1 rfl u s' z
theorem psl_while {X : Cx} {c : Expr} {body : List Stmt} {tc : LT} {lb : LS} {pos : Pos} (n : Nat) (hp : PassesOwn (model X.prog X.w) X.A X.env X.xe) (hc : PTL X c tc) (hb : PSsL X body lb) : PSL X (.While c body [] pos) (lWhile n tc lb) := by
  refine ps_imp (ps_while hp hc.ptx hb) fun D σ H h => ?_
  obtain ⟨m0, ρ0, S0, x0, er0, hl0, h0⟩ := h
  refine ⟨fun k σ H => tSL X (whileG ρ0 tc lb k) D σ H, ⟨n, m0, ρ0, S0, x0, er0, hl0, h0⟩, ?_⟩
  rintro k σ H ⟨m, ρ, S, x, er, hl, h⟩
  cases k with
  | zero => obtain ⟨fl, S', q⟩ := h.ok; cases q
  | succ k =>
    have h' : HS X D m H (liftX ρ (tc ρ S) fun b S1 => if b = true then (lb ρ S1).bind (Fl.loop ρ0 (whileG ρ0 tc lb k)) else .ok (.nx ρ) S1) := h
    refine ⟨m, ρ, S, x, er, HS.hope h' er hl x, fun b S' q H' m' e x' => ?_⟩
    rw [q] at h'
    have h2 : HS X D m' H' (if b = true then (lb ρ S').bind (Fl.loop ρ0 (whileG ρ0 tc lb k)) else .ok (.nx ρ) S') := HS.ext h' e
    cases b with
    | true =>
      rw [if_pos rfl] at h2 ⊢
      exact ⟨fun σ' H' => tSL X (whileG ρ0 tc lb k) D σ' H', fun σ' H' z => ⟨k, Nat.lt_succ_self _, z⟩, m', ρ, S', x', er.ext e x.muts, hl, h2.loop⟩
    | false =>
      rw [if_neg Bool.false_ne_true] at h2 ⊢
      exact h2.nx ρ S' rfl σ H' (sv_same x' (er.ext e x.muts) hl)

/-! ### what is walked -/
/-- the items, and what must stay of the store meanwhile -/
structure Its' where
  items : List D
  chk : Sto → Prop
abbrev LI := Ev → Sto → R Its'
/-- what a turn hands over: a thing of the layer, or a new tuple of such -/
def YS (K : PySem.W.Frag) (m : List Addr) (H Hx : Hp) (x : V) (H' : Hp) (d : D) : Prop :=
  (H' = Hx ∧ VR K m H x d) ∨ ∃ T ws ds, Hx T = none ∧ H' = upd Hx T (.tup ws) ∧ x = .ref T ∧ d = .tup ds ∧ VRs K m H ws ds
def Ylds (K : PySem.W.Frag) (J : It) (m1 : List Addr) (H1 : Hp) (it : Its') : Prop := ∀ m2 H2 S2 Hx, Ext m1 H1 m2 H2 → SR K m2 H2 S2 → it.chk S2 → (∀ a o, H2 a = some o → Hx a = some o) →
  (∀ (i : Nat) (d : D), it.items[i]? = some d → J.go i Hx ∧ ∀ x H', J.yld i Hx x H' → YS K m2 H2 Hx x H' d) ∧ ∀ i, it.items.length ≤ i → J.stop i Hx
def tIL (X : Cx) (li : LI) : TI := fun σ H Rr => ∃ m ρ S, SR X.K m H S ∧ ER X.K m H σ ρ ∧ Hope X σ m H (li ρ S) ∧ ∀ it S1, li ρ S = .ok it S1 → ∀ J H1 m1, Ext m H m1 H1 → SR X.K m1 H1 S1 → Ylds X.K J m1 H1 it → Rr J H1
def PIL (X : Cx) (tg iter : Expr) (li : LI) : Prop := PI X tg iter (tIL X li)
def iterOf (S : Sto) : D → Option Its'
  | .lst xs => some ⟨xs, fun _ => True⟩
  | .tup xs => some ⟨xs, fun _ => True⟩
  | .ftup xs => some ⟨xs, fun _ => True⟩
  | .str z => some ⟨z.cps.toList.map fun c => .str ⟨#[c]⟩, fun _ => True⟩
  | .ref i => match S[i]? with
    | some (.lst xs) => some ⟨xs, fun S' => S'[i]? = some (.lst xs)⟩
    | _ => none
  | _ => none
def liftI (o : Option Its') (S : Sto) : R Its' := match o with
  | some d => .ok d S
  | none => .bad
def lIter (l : LE) : LI := fun ρ S => (l ρ S).bind fun d S1 => liftI (iterOf S1 d) S1
theorem yl_list {K : PySem.W.Frag} {m1 : List Addr} {H1 : Hp} {a : Addr} {vs : List V} {xs : List D} (mu : ∀ a ∈ m1, Mut (H1 a)) (n : a ∉ m1) (h : Rd H1 a (.lst vs)) (r : VRs K m1 H1 vs xs) : Ylds K (Itl K a) m1 H1 ⟨xs, fun _ => True⟩ := fun m2 H2 S2 Hx e x _ sup => by
  have h2 := e.rd n h
  have h3 : Rd Hx a (.lst vs) := by
    rcases h2 with h2 | ⟨o, h2⟩
    · exact .inl (sup _ _ h2)
    · exact .inr ⟨o, sup _ _ h2⟩
  have r2 := r.ext e mu
  refine ⟨fun i d hi => ?_, fun i hi => ⟨vs, .inl h3, by rw [r.length]; exact hi⟩⟩
  obtain ⟨v, hv, w⟩ := r2.getr hi
  refine ⟨⟨vs, v, .inl h3, hv⟩, fun y H' z => .inl ⟨z.1, ?_⟩⟩
  have := z.2 vs (.inl h3)
  rw [hv] at this
  cases this
  exact w
theorem yl_listK {K : PySem.W.Frag} {m1 : List Addr} {H1 : Hp} {a : Addr} {vs : List V} {xs : List D} (mu : ∀ a ∈ m1, Mut (H1 a)) (h : ∀ H, SqL K H a vs) (r : VRs K m1 H1 vs xs) : Ylds K (Itl K a) m1 H1 ⟨xs, fun _ => True⟩ := fun m2 H2 S2 Hx e x _ sup => by
  have r2 := r.ext e mu
  refine ⟨fun i d hi => ?_, fun i hi => ⟨vs, h _, by rw [r.length]; exact hi⟩⟩
  obtain ⟨v, hv, w⟩ := r2.getr hi
  refine ⟨⟨vs, v, h _, hv⟩, fun y H' z => .inl ⟨z.1, ?_⟩⟩
  have := z.2 vs (h _)
  rw [hv] at this
  cases this
  exact w
theorem yl_ref {K : PySem.W.Frag} {m1 : List Addr} {H1 : Hp} {a : Addr} {xs : List D} {j : Nat} (hj : m1[j]? = some a) : Ylds K (Itl K a) m1 H1 ⟨xs, fun S' => S'[j]? = some (.lst xs)⟩ := fun m2 H2 S2 Hx e x c sup => by
  have z := x.at_ j a _ (e.get hj) c
  cases z with
  | lst h r =>
    rename_i vs
    have h3 : SqL K Hx a vs := SqL.of (sup _ _ h)
    refine ⟨fun i d hi => ?_, fun i hi => ⟨vs, h3, by rw [r.length]; exact hi⟩⟩
    obtain ⟨v, hv, w⟩ := r.getr hi
    refine ⟨⟨vs, v, h3, hv⟩, fun y H' z => .inl ⟨z.1, ?_⟩⟩
    have := z.2 vs h3
    rw [hv] at this
    cases this
    exact w
theorem yl_tup {K : PySem.W.Frag} {m1 : List Addr} {H1 : Hp} {a : Addr} {vs : List V} {xs : List D} (mu : ∀ a ∈ m1, Mut (H1 a)) (h : Rd H1 a (.tup vs)) (r : VRs K m1 H1 vs xs) : Ylds K (Itt K a) m1 H1 ⟨xs, fun _ => True⟩ := fun m2 H2 S2 Hx e x _ sup => by
  have h3 : SqT K Hx a vs := SqT.rd (Rd.sup sup (e.rd (fun z => not_mut_tup h (mu a z)) h))
  have r2 := r.ext e mu
  refine ⟨fun i d hi => ?_, fun i hi => ⟨vs, h3, by rw [r.length]; exact hi⟩⟩
  obtain ⟨v, hv, w⟩ := r2.getr hi
  refine ⟨⟨vs, v, h3, hv⟩, fun y H' z => .inl ⟨z.1, ?_⟩⟩
  have := z.2 vs h3
  rw [hv] at this
  cases this
  exact w
theorem yl_str {K : PySem.W.Frag} {m1 : List Addr} {H1 : Hp} {z : Str} : Ylds K (L2.Its z) m1 H1 ⟨z.cps.toList.map fun c => .str ⟨#[c]⟩, fun _ => True⟩ := fun m2 H2 S2 Hx e x _ sup => by
  refine ⟨fun i d hi => ?_, fun i hi => by show z.cps.size ≤ i; simpa using hi⟩
  have hl : i < z.cps.size := by
    have := (List.getElem?_eq_some_iff.mp hi).1
    simpa using this
  refine ⟨hl, fun y H' q => .inl ⟨q.1, ?_⟩⟩
  obtain ⟨c, hc, rfl⟩ := q.2
  simp only [List.getElem?_map, Array.getElem?_toList, hc, Option.map_some, Option.some.injEq] at hi
  subst hi
  exact .str _
section
variable {X : Cx} {tg e : Expr} {l : LE} {t : LA} {p pos : Pos} {a b : Expr}
theorem pil_val (he : PEL X e l) : PIL X tg e (lIter l) := by
  refine ⟨fun pins s σ H Rr I ⟨m, ρ, S, x, er, hp, k⟩ => ?_⟩
  refine run_seq he I x er hp fun d S1 q v u s1 H1 m1 I1 rv e1 x1 w er1 hp1 => ?_
  cases q2 : iterOf S1 d with
  | none => rw [q2] at hp1; exact absurd rfl hp1.1
  | some it =>
    have q3 : lIter l ρ S = .ok it S1 := by unfold lIter; rw [q, bind_ok, q2]; rfl
    have K2 := fun J y => k it S1 q3 J H1 m1 e1 x1 y
    cases w with
    | @lst a vs xs n h r =>
      cases q2
      obtain rfl : u = Value.ref a := rv
      obtain ⟨its, rv', pp, hz⟩ := I1.list (.inl h)
      refine wpAny_pyIter_list pp.isList ?_
      refine ⟨s1.heap.objs.size, [s1.heap.objs.size], _, _, H1, rfl, I1.kept (t' := s1.toks) fun b o e => Heap.get?_push_of_some _ e, turn_list a _, ⟨_, Heap.get?_push_size _ rfl, rfl, rfl⟩, fun b hb => ?_, K2 _ (yl_list x1.muts n h r)⟩
      have e : b = s1.heap.objs.size := by simpa using hb
      subst e
      exact I1.fpOk (Nat.le_refl _) (I1.hok.fresh (Nat.le_refl _))
    | @lstK a vs xs ob its n hk h1 h2 h3 h4 h5 r =>
      cases q2
      obtain rfl : u = Value.ref a := rv
      obtain ⟨its, rv', pp, hz⟩ := I1.list (H := H1) (a := a) (.inr ⟨ob, its, n, hk, h1, h2, h3, h4, h5⟩)
      refine wpAny_pyIter_list pp.isList ?_
      refine ⟨s1.heap.objs.size, [s1.heap.objs.size], _, _, H1, rfl, I1.kept (t' := s1.toks) fun b o e => Heap.get?_push_of_some _ e, turn_list a _, ⟨_, Heap.get?_push_size _ rfl, rfl, rfl⟩, fun b hb => ?_, K2 _ (yl_listK x1.muts (fun _ => .inr ⟨ob, _, n, hk, h1, h2, h3, h4, h5⟩) r)⟩
      have e : b = s1.heap.objs.size := by simpa using hb
      subst e
      exact I1.fpOk (Nat.le_refl _) (I1.hok.fresh (Nat.le_refl _))
    | @tup a vs xs h r =>
      cases q2
      obtain rfl : u = Value.ref a := rv
      obtain ⟨its, rv', pp, hz⟩ := I1.tuple (SqT.of h)
      refine wpAny_pyIter_tuple (show s1.heap.IsTuple a its.toArray from pp) ?_
      refine ⟨s1.heap.objs.size, [s1.heap.objs.size], _, _, H1, rfl, I1.kept (t' := s1.toks) fun b o e => Heap.get?_push_of_some _ e, turn_tuple a _, ⟨_, Heap.get?_push_size _ rfl, rfl, rfl⟩, fun b hb => ?_, K2 _ (yl_tup x1.muts (.inl h) r)⟩
      have e : b = s1.heap.objs.size := by simpa using hb
      subst e
      exact I1.fpOk (Nat.le_refl _) (I1.hok.fresh (Nat.le_refl _))
    | @ftup a vs xs o hd h r =>
      cases q2
      obtain rfl : u = Value.ref a := rv
      obtain ⟨its, rv', pp, hz⟩ := I1.tuple (SqT.rd (.inr ⟨o, h⟩))
      refine wpAny_pyIter_tuple (show s1.heap.IsTuple a its.toArray from pp) ?_
      refine ⟨s1.heap.objs.size, [s1.heap.objs.size], _, _, H1, rfl, I1.kept (t' := s1.toks) fun b o e => Heap.get?_push_of_some _ e, turn_tuple a _, ⟨_, Heap.get?_push_size _ rfl, rfl, rfl⟩, fun b hb => ?_, K2 _ (yl_tup x1.muts (.inr ⟨o, h⟩) r)⟩
      have e : b = s1.heap.objs.size := by simpa using hb
      subst e
      exact I1.fpOk (Nat.le_refl _) (I1.hok.fresh (Nat.le_refl _))
    | str z =>
      cases q2
      obtain ⟨tk, rfl⟩ := rv
      cases ha : z.cps.all (· < 128)
      · exact wpAny_pyIter_wide ha (pi_one (tk := s1.toks) I1 _ (turn_str _ z tk "str_iterator" (.inr rfl)) ⟨_, Heap.get?_push_size _ rfl, rfl, rfl⟩ (K2 _ yl_str))
      · exact wpAny_pyIter_ascii ha (pi_one (tk := s1.toks) I1 _ (turn_str _ z tk "str_ascii_iterator" (.inl rfl)) ⟨_, Heap.get?_push_size _ rfl, rfl, rfl⟩ (K2 _ yl_str))
    | @ref i a h =>
      dsimp only [iterOf] at q2
      cases q4 : S1[i]? with
      | none => rw [q4] at q2; cases q2
      | some ob =>
        rw [q4] at q2
        cases ob with
        | lst xs =>
          cases q2
          have z := x1.at_ i a _ h q4
          cases z with
          | lst h' r =>
            obtain rfl : u = Value.ref a := rv
            obtain ⟨its, rv', pp, hz⟩ := I1.list (SqL.of h')
            refine wpAny_pyIter_list pp.isList ?_
            refine ⟨s1.heap.objs.size, [s1.heap.objs.size], _, _, H1, rfl, I1.kept (t' := s1.toks) fun b o e => Heap.get?_push_of_some _ e, turn_list a _, ⟨_, Heap.get?_push_size _ rfl, rfl, rfl⟩, fun b hb => ?_, K2 _ (yl_ref h)⟩
            have e : b = s1.heap.objs.size := by simpa using hb
            subst e
            exact I1.fpOk (Nat.le_refl _) (I1.hok.fresh (Nat.le_refl _))
        | dct _ _ => cases q2
        | ins _ _ => cases q2
    | _ => cases q2
/-- range(n) -/
def lRange1 (t : LA) : LI := fun ρ S => (t ρ S).bind fun ds S1 => match ds with
  | [.int j] => if -(2 ^ 62) ≤ j ∧ j < 2 ^ 62 then .ok ⟨(List.range j.toNat).map fun (i : Nat) => .int (i : Int), fun _ => True⟩ S1 else .bad
  | _ => .bad
theorem pil_range1 (hg : Gl X "range") (hm : X.mg "range" = none) (ha : PAL X [a] t) (hs : starEach [a] X.env = [(false, eval a X.env)] := by rfl) : PIL X tg (.Call (.Name "range" p) [a] [] pos) (lRange1 t) := by
  refine ⟨fun pins s σ H Rr I ⟨m, ρ, S, x, er, hp, k⟩ => ?_⟩
  refine Call_ (ld_blt I hg hm boot_range (PyProof.Rows.callWith_type1 (run_seqA ha I x er hp fun ds S1 q1 vs us s1 H1 m1 I1 rv e1 x1 w1 r1 hp1 => ?_) hs rfl))
  cases w1 with
  | nil => exact absurd rfl hp1.1
  | cons w w2 =>
    cases w2 with
    | cons _ _ => cases w <;> exact absurd rfl hp1.1
    | nil =>
      cases w with
      | int j =>
        have hz := hope_if hp1
        have q2 : lRange1 t ρ S = .ok ⟨(List.range j.toNat).map fun (i : Nat) => .int (i : Int), fun _ => True⟩ S1 := by unfold lRange1; rw [q1, bind_ok]; exact if_pos hz
        cases rv with
        | cons r rr =>
          cases rr
          obtain ⟨tk, rfl⟩ := r
          refine call_range_1 (range_it I1 (by omega) (by omega) hz.1 hz.2 (k _ S1 q2 _ H1 m1 e1 x1 fun m2 H2 S2 Hx e x _ sup => ⟨fun i d hi => ?_, fun i hi => ?_⟩))
          · have hl : i < (j - 0).toNat := by
              have := (List.getElem?_eq_some_iff.mp hi).1
              simpa using this
            refine ⟨hl, fun y H' q => .inl ⟨q.1, ?_⟩⟩
            rw [q.2]
            simp only [List.getElem?_map, List.getElem?_range (show i < j.toNat by simpa using hl), Option.map_some, Option.some.injEq] at hi
            subst hi
            rw [Int.zero_add]
            exact .int _
          · show (j - 0).toNat ≤ i
            simpa using hi
      | _ => exact absurd rfl hp1.1
/-- enumerate(a list) -/
def enumD (xs : List D) : List D := (List.range xs.length).zipWith (fun (i : Nat) x => .tup [.int (i : Int), x]) xs
def lEnum (t : LA) : LI := fun ρ S => (t ρ S).bind fun ds S1 => match ds with
  | [.lst xs] => .ok ⟨enumD xs, fun _ => True⟩ S1
  | _ => .bad
end
end MP

namespace MP
open PySem PySem.Spec PyProof.Rows L2

/-! ### targets -/
abbrev GT := D → Ev → Option Ev
abbrev GTs := List D → Ev → Option Ev
def tGL (K : PySem.W.Frag) (ix : List Nat) (g : GT) : TG := fun v σ H Q => ∃ m Hr ρ d ρ', (∀ a xs, Hr a = some (.tup xs) → H a = some (.tup xs)) ∧ VR K m Hr v d ∧ ER K m Hr σ ρ ∧ ρ.length = σ.length ∧ g d ρ = some ρ' ∧
  ∀ σ', ER K m Hr σ' ρ' → ρ'.length = σ'.length → σ'.length = σ.length → (∀ j, j ∉ ix → σ'[j]? = σ[j]?) → Q σ' H
def tGLs (K : PySem.W.Frag) (ix : List Nat) (g : GTs) : TGs := fun vs σ H Q => ∃ m Hr ρ ds ρ', (∀ a xs, Hr a = some (.tup xs) → H a = some (.tup xs)) ∧ VRs K m Hr vs ds ∧ ER K m Hr σ ρ ∧ ρ.length = σ.length ∧ g ds ρ = some ρ' ∧
  ∀ σ', ER K m Hr σ' ρ' → ρ'.length = σ'.length → σ'.length = σ.length → (∀ j, j ∉ ix → σ'[j]? = σ[j]?) → Q σ' H
def PGL (X : Cx) (tg : Expr) (ix : List Nat) (g : GT) : Prop := PG X tg (tGL X.K ix g)
def PGsL (X : Cx) (tgs : List Expr) (ix : List Nat) (g : GTs) : Prop := PGs X tgs (tGLs X.K ix g)
theorem pg_imp {X : Cx} {tg : Expr} {t u : TG} (h : PG X tg t) (k : ∀ v σ H Q, u v σ H Q → t v σ H Q) : PG X tg u := ⟨fun pins s σ H v u' Q I r q => h.run pins s σ H v u' Q I r (k v σ H Q q)⟩
theorem pgs_imp {X : Cx} {tg : List Expr} {t u : TGs} (h : PGs X tg t) (k : ∀ v σ H Q, u v σ H Q → t v σ H Q) : PGs X tg u := ⟨fun pins s σ H v u' Q I r q => h.run pins s σ H v u' Q I r (k v σ H Q q)⟩
def gtName (i : Nat) : GT := fun d ρ => some (ρ.set i (some d))
def gtNil : GTs := fun ds ρ => match ds with
  | [] => some ρ
  | _ :: _ => none
def gtCons (g : GT) (gs : GTs) : GTs := fun ds ρ => match ds with
  | [] => none
  | d :: r => (g d ρ).bind fun ρ' => gs r ρ'
def gtTup (n : Nat) (gs : GTs) : GT := fun d ρ => match d with
  | .tup ds => if ds.length = n then gs ds ρ else none
  | _ => none
section
variable {X : Cx} {pos : Pos} {x : Str} {e : Expr} {es : List Expr}
theorem pgl_name {i : Nat} (hN : X.N.Nodup) (hi : X.N[i]? = some x := by rfl) (hx : Loc X.env.scope x := by first | exact .inl rfl | exact .inr rfl) (hf : X.fn x = true ∨ X.env.scope.names.lookup x = some .local := by first | exact .inl rfl | exact .inr rfl | assumption) : PGL X (.Name x pos) [i] (gtName i) :=
  pg_imp (pg_name hN hi hx hf) fun v σ H Q ⟨m, Hr, ρ, d, ρ', h1, h2, h3, h4, h5, k⟩ => by
    cases h5
    exact k _ (h3.set h2) (by simp [h4]) (by simp) fun j hj => by rw [List.getElem?_set_ne (fun z => hj (by simp [z]))]
theorem pgsl_nil : PGsL X [] [] gtNil := pgs_imp pgs_nil fun vs σ H Q ⟨m, Hr, ρ, ds, ρ', h1, h2, h3, h4, h5, k⟩ => by
  cases h2 with
  | nil => cases h5; exact ⟨rfl, k σ h3 h4 rfl fun _ _ => rfl⟩
  | cons _ _ => cases h5
theorem pgsl_cons {ix ix' : List Nat} {g : GT} {gs : GTs} (h1 : PGL X e ix g) (h2 : PGsL X es ix' gs) (hs : (assignEach (e :: es) X.env).map (·.2) = assign e X.env :: (assignEach es X.env).map (·.2) := by rfl) : PGsL X (e :: es) (ix ++ ix') (gtCons g gs) :=
  pgs_imp (pgs_cons h1 h2 hs) fun vs σ H Q ⟨m, Hr, ρ, ds, ρ', h1, h2, h3, h4, h5, k⟩ => by
    cases h2 with
    | nil => cases h5
    | @cons v d vs ds hv hr =>
      dsimp only [gtCons] at h5
      cases q : g d ρ with
      | none => rw [q] at h5; cases h5
      | some ρ1 =>
        rw [q] at h5
        exact ⟨v, vs, rfl, m, Hr, ρ, d, ρ1, h1, hv, h3, h4, q, fun σ1 e1 l1 l2 k1 => ⟨m, Hr, ρ1, ds, ρ', h1, hr, e1, l1, h5, fun σ2 e2 l3 l4 k2 => k σ2 e2 l3 (l4.trans l2) fun j hj => (k2 j fun z => hj (List.mem_append_right _ z)).trans (k1 j fun z => hj (List.mem_append_left _ z))⟩⟩
theorem pgl_tup {ix : List Nat} {gs : GTs} {n k : Nat} (hc : X.calm = true) (h : PGsL X es ix gs) (hn : (assignEach es X.env).length = n := by rfl) (hst : (assignEach es X.env).findIdx? (·.1) = none := by rfl) : PGL X (.Tuple es k pos) ix (gtTup n gs) :=
  pg_imp (pg_tup (n := n) hc h hn hst) fun v σ H Q ⟨m, Hr, ρ, d, ρ', h1, h2, h3, h4, h5, k⟩ => by
    cases h2 with
    | @tup a vs ds ha hr =>
      dsimp only [gtTup] at h5
      split at h5
      · rename_i hl
        exact ⟨a, vs, rfl, SqT.of (h1 _ _ ha), by rw [hr.length]; exact hl, m, Hr, ρ, ds, ρ', h1, hr, h3, h4, h5, k⟩
      · cases h5
    | _ => cases h5
end

/-! ### for -/
open Classical in
noncomputable def forG (ρ0 : Ev) (chk : Sto → Prop) (g : GT) (lb : LS) : List D → LS
  | [] => fun ρ S => if chk S then .ok (.nx ρ) S else .bad
  | d :: ds => fun ρ S => if chk S then (match g d ρ with
    | some ρ1 => (lb ρ1 S).bind (Fl.loop ρ0 (forG ρ0 chk g lb ds))
    | none => .bad) else .bad
noncomputable def lFor (li : LI) (g : GT) (lb : LS) : LS := fun ρ S => liftX ρ (li ρ S) fun it S1 => forG ρ it.chk g lb it.items ρ S1
theorem ys_vr {K : PySem.W.Frag} {m : List Addr} {H Hx H' : Hp} {x : V} {d : D} (mu : ∀ a ∈ m, Mut (H a)) (h : YS K m H H x H' d) : VR K m H' x d ∧ Ext m H m H' := by
  rcases h with ⟨rfl, h⟩ | ⟨T, ws, ds, hT, rfl, rfl, rfl, r⟩
  · exact ⟨h, Ext.refl⟩
  · exact ⟨.tup upd_same (r.ext (Ext.fresh hT) mu), Ext.fresh hT⟩
theorem psl_for {X : Cx} {tg iter : Expr} {body : List Stmt} {li : LI} {ix : List Nat} {g : GT} {lb : LS} {pos : Pos} (hp : PassesOwn (model X.prog X.w) X.A X.env X.xe) (hc : X.calm = true) (hi : PIL X tg iter li) (hg : PGL X tg ix g) (hb : PSsL X body lb)
    (hs : ∀ x, foldedSetIterable iter X.env x = pure x := by intro _; rfl) : PSL X (.For tg iter body [] pos) (lFor li g lb) := by
  refine ps_imp (ps_for hp hc hi hg hb hs) fun D σ H ⟨m0, ρ0, S0, x0, er0, hl0, h0⟩ => ?_
  have h0' : HS X D m0 H (liftX ρ0 (li ρ0 S0) fun it S1 => forG ρ0 it.chk g lb it.items ρ0 S1) := h0
  refine ⟨m0, ρ0, S0, x0, er0, HS.hope h0' er0 hl0 x0, fun it S1 q J H1 m1 e1 x1 yl => ?_⟩
  rw [q] at h0'
  have h1 : HS X D m1 H1 (forG ρ0 it.chk g lb it.items ρ0 S1) := HS.ext h0' e1
  refine ⟨fun i k σ H => k + i = it.items.length ∧ ∃ m ρ S, Ext m1 H1 m H ∧ SR X.K m H S ∧ ER X.K m H σ ρ ∧ ρ.length = σ.length ∧ HS X D m H (forG ρ0 it.chk g lb (it.items.drop i) ρ S), ⟨it.items.length, by simp, m1, ρ0, S1, Ext.refl, x1, er0.ext e1 x0.muts, hl0, by simpa using h1⟩, ?_⟩
  rintro i k σ H ⟨hk, m, ρ, S, e, x, er, hl, h⟩
  by_cases hi : i < it.items.length
  · have hd : it.items.drop i = it.items[i] :: it.items.drop (i + 1) := List.drop_eq_getElem_cons hi
    rw [hd] at h
    have hchk : it.chk S := by
      by_cases z : it.chk S
      · exact z
      · obtain ⟨fl, S', q⟩ := h.ok
        dsimp only [forG] at q
        rw [if_neg z] at q
        cases q
    dsimp only [forG] at h
    rw [if_pos hchk] at h
    cases hgd : g it.items[i] ρ with
    | none => rw [hgd] at h; obtain ⟨fl, S', q⟩ := h.ok; cases q
    | some ρ1 =>
      rw [hgd] at h
      dsimp only at h
      obtain ⟨y1, y2⟩ := yl m H S H e x hchk fun _ _ z => z
      obtain ⟨go, yy⟩ := y1 i it.items[i] (List.getElem?_eq_getElem hi)
      refine .inr ⟨go, fun σ' H' => ∃ m ρ S, Ext m1 H1 m H' ∧ SR X.K m H' S ∧ ER X.K m H' σ' ρ ∧ ρ.length = σ'.length ∧ HS X D m H' (forG ρ0 it.chk g lb (it.items.drop (i + 1)) ρ S), fun σ' H' z => ⟨k - 1, by omega, by omega, z⟩, fun v H' hy => ?_⟩
      obtain ⟨w, e2⟩ := ys_vr (Hx := H) x.muts (yy v H' hy)
      have x2 : SR X.K m H' S := by
        rcases yy v H' hy with ⟨rfl, _⟩ | ⟨T, ws, ds, hT, rfl, _⟩
        · exact x
        · exact x.fresh hT
      refine ⟨m, H', ρ, it.items[i], ρ1, fun _ _ z => z, w, er.ext e2 x.muts, hl, hgd, fun σ2 er2 hl2 _ _ => ⟨m, ρ1, S, x2, er2, hl2, ?_⟩⟩
      obtain ⟨fl, S', qok⟩ := (HS.ext h e2).ok
      obtain ⟨a, S3, qa, qb⟩ := bind_nbad qok
      -- the ways out, by the place where they lie
      have key : (lb ρ1 S).bind (Fl.loop ρ0 (forG ρ0 it.chk g lb (it.items.drop (i + 1)))) = Fl.loop ρ0 (forG ρ0 it.chk g lb (it.items.drop (i + 1))) a S3 := by rw [qa]; rfl
      have hA := HS.ext h e2
      rw [key] at hA
      refine ⟨⟨a, S3, qa⟩, fun ρ' S2 ee σ' H'' z => ?_, fun d S2 ee v H'' z => ?_, fun ρ' S2 ee σ' H'' z => ?_, fun ρ' S2 ee σ' H'' z => ?_, fun C fs ρ' S2 ee u s' z => ?_⟩
      · rw [qa] at ee
        cases ee
        obtain ⟨m', e', x', er', hl'⟩ := z.wk ρ0
        exact ⟨m', _, S3, (e.trans e2).trans e', x', er', hl', HS.ext hA e'⟩
      · rw [qa] at ee
        cases ee
        exact hA.rt d S3 rfl v H'' z
      · rw [qa] at ee
        cases ee
        exact hA.nx _ S3 rfl σ' H'' (z.wk ρ0)
      · rw [qa] at ee
        cases ee
        obtain ⟨m', e', x', er', hl'⟩ := z.wk ρ0
        exact ⟨m', _, S3, (e.trans e2).trans e', x', er', hl', HS.ext hA e'⟩
      · rw [qa] at ee
        cases ee
        exact hA.ex C fs ρ' S3 rfl u s' z
  · have hd : it.items.drop i = [] := List.drop_eq_nil_of_le (by omega)
    rw [hd] at h
    have hchk : it.chk S := by
      by_cases z : it.chk S
      · exact z
      · obtain ⟨fl, S', q⟩ := h.ok
        dsimp only [forG] at q
        rw [if_neg z] at q
        cases q
    dsimp only [forG] at h
    rw [if_pos hchk] at h
    obtain ⟨y1, y2⟩ := yl m H S H e x hchk fun _ _ z => z
    exact .inl ⟨y2 i (by omega), h.nx ρ S rfl σ H (sv_same x er hl)⟩
end MP

namespace MP
open PySem PySem.Spec PyProof.Rows L2

/-! ### a list that is being made is hidden -/
def hid (H : Hp) (p : Addr) : Hp := fun b => if b = p then none else H b
theorem hid_ne {H : Hp} {a p : Addr} (h : a ≠ p) : hid H p a = H a := if_neg h
theorem hid_same {H : Hp} {p : Addr} : hid H p p = none := if_pos rfl
section
variable {X : Cx} {pins : List (Addr × Obj)} {σ : L2.St} {H : Hp} {s : Shared} {p : Addr} {vs : List V}
theorem hide_inv (I : Inv X pins σ H s) (hD : H p = some (.lst vs)) : ∃ o, Inv X ((p, o) :: pins) σ (hid H p) s ∧ ∀ σ' s' H', Inv X ((p, o) :: pins) σ' H' s' → Inv X pins σ' (upd H' p (.lst vs)) s' ∧ H' p = none := by
  obtain ⟨hz, its, n, rv, ho⟩ : vs.length ≤ sizeLine ∧ ∃ (its : List Value) (n : Nat), Vals vs its ∧ s.heap.get? p = some { cls := .type "list", data := .seq its.toArray n } := I.hok p _ hD
  have ns : ∀ b o, X.s_0.heap.get? b = some o → X.H_0 b = none → b ∉ X.ex → b ≠ p := fun b o q n hx z => by
    have := I.base.free b o q n hx
    rw [z, hD] at this; cases this
  have nt : ∀ b u, H b = some u → (∀ xs, u ≠ .lst xs) → b ≠ p := fun b u q nl z => by
    rw [z, hD] at q
    cases q
    exact nl _ rfl
  have nloc : p ≠ X.env.locals := fun z => by
    have := I.free
    rw [← z, hD] at this; cases this
  have nfs : p ∉ X.fs := fun hb => by
    obtain ⟨_, o, ho', _⟩ := I.ok.funs.mem hb
    have := I.base.free p o ho' (I.ok.frf p hb) fun z => I.ok.exfs p z hb
    rw [hD] at this; cases this
  refine ⟨{ cls := .type "list", data := .seq its.toArray n }, ⟨I.ok, I.os, I.bare, ⟨I.base.keep, I.base.slot, fun b o q n hx => ?_, I.base.there, fun b xs q => ?_, fun b o u q => ?_, fun b ps q => ?_⟩, I.loc, I.cell, ?_, fun x c e => ?_, fun q hq => ?_, fun b u q => ?_, I.len⟩, fun σ' s' H' J => ?_⟩
  · rw [hid_ne (ns b o q n hx)]; exact I.base.free b o q n hx
  · rw [hid_ne (nt b _ (I.base.tups b xs q) fun _ z => nomatch z)]; exact I.base.tups b xs q
  · rw [hid_ne (nt b _ (I.base.frzs b o u q) fun _ z => nomatch z)]; exact I.base.frzs b o u q
  · obtain ⟨more, e⟩ := I.base.tbls b ps q
    exact ⟨more, by rw [hid_ne (nt b _ e fun _ z => nomatch z)]; exact e⟩
  · rw [hid_ne nloc.symm]; exact I.free
  · by_cases hc : c = p
    · rw [hc]; exact hid_same
    · rw [hid_ne hc]; exact I.freeC x c e
  · rcases List.mem_append.mp hq with z | z
    · obtain ⟨a1, a2, a3⟩ := I.pin q (List.mem_append_left _ z)
      refine ⟨a1, ?_, a3⟩
      by_cases hc : q.1 = p
      · rw [hc]; exact hid_same
      · rw [hid_ne hc]; exact a2
    · rcases List.mem_cons.mp z with z | z
      · subst z
        exact ⟨ho, hid_same, nloc, nfs, fun v z => nomatch z⟩
      · obtain ⟨a1, a2, a3⟩ := I.pin q (List.mem_append_right _ z)
        refine ⟨a1, ?_, a3⟩
        by_cases hc : q.1 = p
        · rw [hc]; exact hid_same
        · rw [hid_ne hc]; exact a2
  · have hb : b ≠ p := fun z => by rw [z, hid_same] at q; cases q
    rw [hid_ne hb] at q
    exact (I.hok b u q).stay (fun c v _ z => z) (fun c z => by rw [hid_ne (nt c _ z fun _ z => nomatch z)]; exact z) fun c xs z => by rw [hid_ne (nt c _ z fun _ z => nomatch z)]; exact z
  · obtain ⟨p1, p2, _⟩ := J.pin (p, _) (List.mem_append_right _ List.mem_cons_self)
    have n2 : ∀ b u, H' b = some u → b ≠ p := fun b u q z => by rw [z, p2] at q; cases q
    refine ⟨⟨J.ok, J.os, J.bare, ⟨J.base.keep, J.base.slot, fun b o q n hx => ?_, J.base.there, fun b xs q => ?_, fun b o u q => ?_, fun b ps q => ?_⟩, J.loc, J.cell, ?_, fun x c e => ?_, fun q hq => ?_, fun b u q => ?_, J.len⟩, p2⟩
    · rw [upd_ne (ns b o q n hx)]; exact J.base.free b o q n hx
    · rw [upd_ne (n2 b _ (J.base.tups b xs q))]; exact J.base.tups b xs q
    · rw [upd_ne (n2 b _ (J.base.frzs b o u q))]; exact J.base.frzs b o u q
    · obtain ⟨more, e⟩ := J.base.tbls b ps q
      exact ⟨more, by rw [upd_ne (n2 b _ e)]; exact e⟩
    · rw [upd_ne nloc.symm]; exact J.free
    · have : c ≠ p := fun z => by
        have := I.freeC x c e
        rw [z, hD] at this; cases this
      rw [upd_ne this]; exact J.freeC x c e
    · have hq' : q ∈ X.pn ++ (p, ({ cls := .type "list", data := .seq its.toArray n } : Obj)) :: pins := by
        rcases List.mem_append.mp hq with z | z
        · exact List.mem_append_left _ z
        · exact List.mem_append_right _ (List.mem_cons_of_mem _ z)
      obtain ⟨a1, a2, a3⟩ := J.pin q hq'
      refine ⟨a1, ?_, a3⟩
      have : q.1 ≠ p := fun z => by
        have := (I.pin q hq).2.1
        rw [z, hD] at this; cases this
      rw [upd_ne this]; exact a2
    · by_cases hb : b = p
      · subst hb
        rw [upd_same] at q
        cases q
        exact ⟨hz, its, n, rv, p1⟩
      · rw [upd_ne hb] at q
        exact (J.hok b u q).stay (fun c v _ z => z) (fun c z => by rw [upd_ne (n2 c _ z)]; exact z) fun c xs z => by rw [upd_ne (n2 c _ z)]; exact z
def tHide (t : TE) : TE := fun σ H Q => ∃ p vs, H p = some (.lst vs) ∧ t σ (hid H p) fun v H' => H' p = none → Q v (upd H' p (.lst vs))
def tHideT (t : TT) : TT := fun σ H Q => ∃ p vs, H p = some (.lst vs) ∧ t σ (hid H p) fun v H' => H' p = none → Q v (upd H' p (.lst vs))
theorem pe_hide {e : Expr} {t : TE} (h : PE X e t) : PE X e (tHide t) := by
  refine ⟨fun pins s σ H Q I ⟨p, vs, hp, q⟩ => ?_⟩
  obtain ⟨o, I1, back⟩ := hide_inv I hp
  exact thn (h.run _ s σ _ _ I1 q) fun u s' ⟨v, H', I', rv, q'⟩ => ⟨v, _, (back _ _ _ I').1, rv, q' (back _ _ _ I').2⟩
theorem pts_hide {es : List Expr} {t : TT} (h : PTs X es t) : PTs X es (tHideT t) := by
  refine ⟨fun pins s σ H Q I ⟨p, vs, hp, q⟩ => ?_⟩
  obtain ⟨o, I1, back⟩ := hide_inv I hp
  exact thn (h.run _ s σ _ _ I1 q) fun u s' ⟨H', I', q'⟩ => ⟨_, (back _ _ _ I').1, q' (back _ _ _ I').2⟩
end

/-! ### comprehensions -/
def noex {α : Type} (r : R α) : R α := match r with
  | .exc _ _ _ => .bad
  | r => r
def wipeE (ρ : Ev) : List Nat → Ev
  | [] => ρ
  | i :: r => (wipeE ρ r).set i none
open Classical in
noncomputable def compG (chk : Sto → Prop) (g : GT) (tt : LT) (te : LE) (ρ0 : Ev) : List D → Sto → R (List D)
  | [], S => if chk S then .ok [] S else .bad
  | d :: ds, S => if chk S then (match g d ρ0 with
    | some ρ1 => (noex (tt ρ1 S)).bind fun b S1 => if b = true then (noex (te ρ1 S1)).bind fun y S2 => (compG chk g tt te ρ0 ds S2).bind fun ys S3 => .ok (y :: ys) S3 else compG chk g tt te ρ0 ds S1
    | none => .bad) else .bad
noncomputable def compL (li : LI) (ix : List Nat) (g : GT) (tt : LT) (te : LE) : LA := fun ρ S => (li ρ S).bind fun it S1 => if it.items.length ≤ sizeLine then compG it.chk g tt te (wipeE ρ ix) it.items S1 else .bad
/-- the list as it is; a list of the store -/
noncomputable def lComp (li : LI) (ix : List Nat) (g : GT) (tt : LT) (te : LE) : LE := fun ρ S => (compL li ix g tt te ρ S).bind fun ys S2 => .ok (.lst ys) S2
noncomputable def lCompN (li : LI) (ix : List Nat) (g : GT) (tt : LT) (te : LE) : LE := fun ρ S => (compL li ix g tt te ρ S).bind fun ys S2 => .ok (.ref S2.length) (S2 ++ [.lst ys])
def tYesL : LT := fun _ S => .ok true S
theorem wipeE_some : ∀ {ix : List Nat} {ρ : Ev} {i : Nat} {d : D}, (wipeE ρ ix)[i]? = some (some d) → ρ[i]? = some (some d) ∧ i ∉ ix
  | [], _, _, _, h => ⟨h, by simp⟩
  | j :: r, ρ, i, d, h => by
    by_cases hj : j = i
    · subst hj
      simp only [wipeE] at h
      by_cases hl : j < (wipeE ρ r).length
      · rw [List.getElem?_set_self hl] at h; cases h
      · rw [List.getElem?_eq_none (by simp; omega)] at h; cases h
    · simp only [wipeE] at h
      rw [List.getElem?_set_ne hj] at h
      obtain ⟨a, b⟩ := wipeE_some h
      exact ⟨a, by simp [b]; exact fun z => hj z.symm⟩
theorem wipeE_length (ρ : Ev) : ∀ ix : List Nat, (wipeE ρ ix).length = ρ.length
  | [] => rfl
  | j :: r => by simp [wipeE, wipeE_length ρ r]
theorem ER.wipe {K : PySem.W.Frag} {m : List Addr} {H : Hp} {σ : L2.St} {ρ : Ev} (r : ER K m H σ ρ) (ix : List Nat) : ER K m H (L2.wipe σ ix) (wipeE ρ ix) := ⟨fun i d h => by
  obtain ⟨h1, h2⟩ := wipeE_some h
  obtain ⟨v, h3, h4⟩ := r.at_ i d h1
  exact ⟨v, by rw [wipe_out h2]; exact h3, h4⟩, by rw [wipeE_length, wipe_length]; exact r.len⟩
theorem wipe_eq {σ σ' : L2.St} {ix : List Nat} (hl : σ'.length = σ.length) (h : ∀ j, j ∉ ix → σ'[j]? = σ[j]?) : L2.wipe σ' ix = L2.wipe σ ix := by
  apply List.ext_getElem?
  intro i
  by_cases hi : i ∈ ix
  · have z : ∀ τ : L2.St, τ.length = σ.length → (L2.wipe τ ix)[i]? = if i < σ.length then some none else none := fun τ ht => by
      cases q : (L2.wipe τ ix)[i]? with
      | none =>
        rw [List.getElem?_eq_none_iff, wipe_length, ht] at q
        rw [if_neg (by omega)]
      | some o =>
        have h1 := (List.getElem?_eq_some_iff.mp q).1
        rw [wipe_length, ht] at h1
        rw [if_pos h1]
        cases o with
        | none => rfl
        | some v => exact absurd hi (wipe_some q).2
    rw [z σ' hl, z σ rfl]
  · rw [wipe_out hi, wipe_out hi]
    exact h i hi
end MP

namespace MP
open PySem PySem.Spec PyProof.Rows L2

section
variable {K : PySem.W.Frag} {m : List Addr} {H H' : Hp} {p : Addr} {o : HO} {S : Sto}
theorem hid_upd (h : H p = none) : hid (upd H p o) p = H := by
  funext b
  by_cases e : b = p
  · rw [e, hid_same, h]
  · rw [hid_ne e, upd_ne e]
theorem upd_hid (h : H p = some o) : upd (hid H p) p o = H := by
  funext b
  by_cases e : b = p
  · rw [e, upd_same, h]
  · rw [upd_ne e, hid_ne e]
theorem sup_hid : ∀ a o, hid H p a = some o → H a = some o := fun a o e => by
  have : a ≠ p := fun z => by rw [z, hid_same] at e; cases e
  rwa [hid_ne this] at e
end
/-- what lc_core asks, from the store's words -/
theorem comp_read {X : Cx} {li : LI} {ix : List Nat} {g : GT} {tt : LT} {te : LE} {σ : L2.St} {H : Hp} {m : List Addr} {ρ : Ev} {S : Sto} (x0 : SR X.K m H S) (er0 : ER X.K m H σ ρ) (hp : Hope X σ m H (compL li ix g tt te ρ S)) {Q : VK}
    (hQ : ∀ ys S2, compL li ix g tt te ρ S = .ok ys S2 → ∀ p vs m2 H2, Ext m H m2 H2 → SR X.K m2 H2 S2 → H2 p = none → VRs X.K m2 H2 vs ys → Q (.ref p) (upd H2 p (.lst vs))) :
    tLc (tIL X li) (tGL X.K ix g) (tHideT (tT0 X.K tt)) (tHide (tL0 X.K te)) ix σ H Q := by
  refine ⟨m, ρ, S, x0, er0, hope_seq hp, fun it S1 q1 J H1 m1 e1 x1 yl => ?_⟩
  unfold compL at hp hQ
  rw [q1, bind_ok] at hp hQ
  have hz := hope_if hp
  rw [if_pos hz] at hp hQ
  have er1 := (er0.ext e1 x0.muts).wipe ix
  intro D hD
  -- what holds ahead of turn i: so much is made, the rest gives the rest
  refine ⟨fun i k H => k + i = it.items.length ∧ ∃ (vs : List V) (acc : List MP.D) (m : List Addr) (S : Sto), H D = some (.lst vs) ∧ Ext m1 H1 m (hid H D) ∧ SR X.K m (hid H D) S ∧ VRs X.K m (hid H D) vs acc ∧ acc.length ≤ i ∧
      ∃ ys S2, compG it.chk g tt te (wipeE ρ ix) (it.items.drop i) S = .ok ys S2 ∧ compG it.chk g tt te (wipeE ρ ix) it.items S1 = .ok (acc ++ ys) S2, ⟨it.items.length, by simp, [], [], m1, S1, upd_same, ?_, ?_, .nil, Nat.zero_le _, ?_⟩, ?_⟩
  · rw [hid_upd hD]; exact Ext.refl
  · rw [hid_upd hD]; exact x1
  · cases q : compG it.chk g tt te (wipeE ρ ix) it.items S1 with
    | bad => rw [q] at hp; exact absurd rfl hp.1
    | ok ys S2 => exact ⟨ys, S2, by simpa using q, by simp⟩
    | exc C fs S2 =>
      exfalso
      have : ∀ (l : List MP.D) (S : Sto) C fs S2, compG it.chk g tt te (wipeE ρ ix) l S ≠ .exc C fs S2 := by
        intro l
        induction l with
        | nil =>
          intro S C fs S2 z
          dsimp only [compG] at z
          split at z <;> cases z
        | cons d ds ih =>
          intro S C fs S2 z
          dsimp only [compG] at z
          split at z
          · split at z
            · rename_i ρ1 _
              cases q : tt ρ1 S with
              | bad => rw [q] at z; cases z
              | exc _ _ _ => rw [q] at z; cases z
              | ok b S3 =>
                rw [q] at z
                dsimp only [noex, R.bind] at z
                split at z
                · cases q2 : te ρ1 S3 with
                  | bad => rw [q2] at z; cases z
                  | exc _ _ _ => rw [q2] at z; cases z
                  | ok y S4 =>
                    rw [q2] at z
                    dsimp only [noex, R.bind] at z
                    cases q3 : compG it.chk g tt te (wipeE ρ ix) ds S4 with
                    | bad => rw [q3] at z; cases z
                    | ok _ _ => rw [q3] at z; cases z
                    | exc C' fs' S' => exact ih _ _ _ _ q3
                · exact ih _ _ _ _ z
            · cases z
          · cases z
      exact this _ _ _ _ _ q
  · rintro i k H ⟨hk, vs, acc, m2, S2, hHD, e2, x2, r2, hacc, ys, S3, c1, c2⟩
    have er2 : ER X.K m2 (hid H D) (L2.wipe σ ix) (wipeE ρ ix) := er1.ext e2 x1.muts
    by_cases hi : i < it.items.length
    · have hd : it.items.drop i = it.items[i] :: it.items.drop (i + 1) := List.drop_eq_getElem_cons hi
      rw [hd] at c1
      dsimp only [compG] at c1
      split at c1
      · rename_i hchk
        obtain ⟨y1, _⟩ := yl m2 (hid H D) S2 H e2 x2 hchk sup_hid
        obtain ⟨go, yy⟩ := y1 i it.items[i] (List.getElem?_eq_getElem hi)
        split at c1
        · rename_i ρ1 hg1
          refine .inr ⟨go, fun H' => (k - 1) + (i + 1) = it.items.length ∧ ∃ (vs : List V) (acc : List MP.D) (m : List Addr) (S : Sto), H' D = some (.lst vs) ∧ Ext m1 H1 m (hid H' D) ∧ SR X.K m (hid H' D) S ∧ VRs X.K m (hid H' D) vs acc ∧ acc.length ≤ i + 1 ∧
            ∃ ys S2, compG it.chk g tt te (wipeE ρ ix) (it.items.drop (i + 1)) S = .ok ys S2 ∧ compG it.chk g tt te (wipeE ρ ix) it.items S1 = .ok (acc ++ ys) S2, fun H' z => ⟨k - 1, by omega, z⟩, fun v H' hy => ?_⟩
          -- the turn's heap, D hidden
          obtain ⟨w, e3, hD', x3, hall⟩ : VR X.K m2 (hid H' D) v it.items[i] ∧ Ext m2 (hid H D) m2 (hid H' D) ∧ H' D = some (.lst vs) ∧ SR X.K m2 (hid H' D) S2 ∧ ∀ a xs, hid H' D a = some (.tup xs) → H' a = some (.tup xs) := by
            rcases yy v H' hy with ⟨rfl, w⟩ | ⟨T, ws, ds, hT, rfl, rfl, ed, rw'⟩
            · exact ⟨w, Ext.refl, hHD, x2, fun a xs z => sup_hid a _ z⟩
            · have hTD : T ≠ D := fun z => by rw [z, hHD] at hT; cases hT
              have hTh : hid H D T = none := by rw [hid_ne hTD]; exact hT
              have eh : hid (upd H T (.tup ws)) D = upd (hid H D) T (.tup ws) := by
                funext b
                by_cases hb : b = D
                · rw [hb, hid_same, upd_ne hTD.symm, hid_same]
                · rw [hid_ne hb]
                  by_cases hb2 : b = T
                  · rw [hb2, upd_same, upd_same]
                  · rw [upd_ne hb2, upd_ne hb2, hid_ne hb]
              rw [eh]
              refine ⟨?_, Ext.fresh hTh, by rw [upd_ne hTD.symm]; exact hHD, x2.fresh hTh, fun a xs z => ?_⟩
              · rw [ed]
                exact .tup upd_same (rw'.ext (Ext.fresh hTh) x2.muts)
              · rw [← eh] at z
                exact sup_hid a _ z
          refine ⟨m2, hid H' D, wipeE ρ ix, it.items[i], ρ1, hall, w, er2.ext e3 x2.muts, (er2.len), hg1, fun σ2 er3 hl2 hl3 hj => ⟨wipe_eq hl3 (fun j hjx => ?_) |>.trans ?_, ?_⟩⟩
          · exact hj j hjx
          · -- wiped twice
            exact wipe_eq (wipe_length σ ix) fun j hj => wipe_out hj
          · refine ⟨D, vs, hD', m2, ρ1, S2, x3, er3, ?_⟩
            cases qt : tt ρ1 S2 with
            | bad => rw [qt] at c1; cases c1
            | exc _ _ _ => rw [qt] at c1; cases c1
            | ok b S4 =>
              rw [qt] at c1
              dsimp only [noex, R.bind] at c1
              refine ⟨b, S4, rfl, fun H4 m4 e4 x4 hn4 => ?_⟩
              have r4 := (r2.ext e3 x2.muts).ext e4 x3.muts
              cases b with
              | true =>
                rw [if_pos rfl] at c1
                refine iteT ?_
                refine ⟨D, vs, upd_same, m4, ρ1, S4, by rw [hid_upd hn4]; exact x4, by rw [hid_upd hn4]; exact er3.ext e4 x3.muts, ?_⟩
                cases qe : te ρ1 S4 with
                | bad => rw [qe] at c1; cases c1
                | exc _ _ _ => rw [qe] at c1; cases c1
                | ok y S5 =>
                  rw [qe] at c1
                  dsimp only [noex, R.bind] at c1
                  refine ⟨y, S5, rfl, fun v5 H5 qv5 hn5 => ?_⟩
                  rw [hid_upd hn4] at qv5
                  obtain ⟨m5, e5, x5, w5⟩ := qv5
                  have r5 := r4.ext e5 x4.muts
                  refine ⟨vs, upd_same, ?_, by omega, vs ++ [v5], acc ++ [y], m5, S5, upd_same, ?_, ?_, ?_, by simp; omega, ?_⟩
                  · rw [r5.length]
                    exact Nat.lt_of_le_of_lt hacc (Nat.lt_of_lt_of_le hi hz)
                  · rw [upd_upd, hid_upd hn5]; exact ((e2.trans e3).trans e4).trans e5
                  · rw [upd_upd, hid_upd hn5]; exact x5
                  · rw [upd_upd, hid_upd hn5]; exact r5.append (.cons w5 .nil)
                  · cases qr : compG it.chk g tt te (wipeE ρ ix) (it.items.drop (i + 1)) S5 with
                    | bad => rw [qr] at c1; cases c1
                    | exc _ _ _ => rw [qr] at c1; cases c1
                    | ok zs S6 =>
                      rw [qr] at c1
                      cases c1
                      exact ⟨zs, _, rfl, by rw [c2]; simp⟩
              | false =>
                rw [if_neg Bool.false_ne_true] at c1
                refine iteF ?_
                exact ⟨by omega, vs, acc, m4, S4, upd_same, by rw [hid_upd hn4]; exact (e2.trans e3).trans e4, by rw [hid_upd hn4]; exact x4, by rw [hid_upd hn4]; exact r4, by omega, ys, S3, c1, c2⟩
        · cases c1
      · cases c1
    · have hd : it.items.drop i = [] := List.drop_eq_nil_of_le (by omega)
      rw [hd] at c1
      dsimp only [compG] at c1
      split at c1
      · rename_i hchk
        cases c1
        obtain ⟨_, y2⟩ := yl m2 (hid H D) S2 H e2 x2 hchk sup_hid
        refine .inl ⟨y2 i (by omega), ?_⟩
        have := hQ _ _ c2 D vs m2 (hid H D) (e1.trans e2) x2 hid_same (by simpa using r2)
        rw [upd_hid hHD] at this
        exact this
      · cases c1
section
variable {X : Cx} {elt tg iter : Expr} {ifs : List Expr} {scope : Scope} {own : List (Str × Nat)} {pos : Pos} {li : LI} {g : GT} {tt : LT} {te : LE}
/-- the tests of a comprehension -/
structure PTsL (X : Cx) (ifs : List Expr) (l : LT) : Prop where
  pts : PTs X ifs (tT0 X.K l)
theorem ptsl_nil : PTsL X [] tYesL := ⟨⟨fun pins s σ H Q I ⟨m, ρ, S, x, er, b, S', q, k⟩ => by
  cases q
  exact wpAny_tests_nil ⟨H, I, k H m Ext.refl x⟩⟩⟩
theorem ptsl_one {c : Expr} {t : LT} (h : PTL X c t) : PTsL X [c] t := ⟨pts_one h.pt⟩
theorem pel_lc (hc : X.calm = true) (hN : X.N.Nodup) (hi : PIL X tg iter li) (ok : BlkOk X.N X.env.scope scope own)
    (hg : ∀ (s : Shared) (H : Hp) (C : Addr) (cl : List (Str × Addr)) (fp : List Addr), PGL (X.blk s H scope (compEnvC scope cl C X.env) fp) tg (own.map (·.2)) g) (ht : ∀ (s : Shared) (H : Hp) (C : Addr) (cl : List (Str × Addr)) (fp : List Addr), PTsL (X.blk s H scope (compEnvC scope cl C X.env) fp) ifs tt)
    (he : ∀ (s : Shared) (H : Hp) (C : Addr) (cl : List (Str × Addr)) (fp : List Addr), PEL (X.blk s H scope (compEnvC scope cl C X.env) fp) elt te) (hs : ∀ x, foldedSetIterable iter X.env x = pure x := by intro _; rfl) :
    PEL X (.ListComp elt [⟨tg, iter, ifs, 0⟩] scope pos) (lComp li (own.map (·.2)) g tt te) :=
  .of_pe (pe_lc (g := tGL X.K (own.map fun q : Str × Nat => q.2) g) (tt := tHideT (tT0 X.K tt)) (te := tHide (tL0 X.K te)) hc hN hi ok hg (fun s H C cl fp => pts_hide (ht s H C cl fp).pts) (fun s H C cl fp => pe_hide (he s H C cl fp).pe) hs) fun σ H m ρ S x er hp =>
    comp_read x er (hope_seq hp) fun ys S2 q p vs m2 H2 e x2 hn r => ⟨.lst ys, S2, by unfold lComp; rw [q]; rfl, m2, e.trans (Ext.fresh hn), x2.fresh hn, vr_newLst x2 hn r⟩
/-- name = [..], the name a local -/
theorem psl_setLc {i : Nat} {y : Str} {py spos : Pos} {lv : LE} (hN : X.N.Nodup) (hyl : X.env.scope.names.lookup y = some .local) (hsw : swapsWith (.ListComp elt [⟨tg, iter, ifs, 0⟩] scope pos) (some (.Name y py)) spos.line X.env = pure true) (hc : X.calm = true) (hi : PIL X tg iter li) (ok : BlkOk X.N X.env.scope scope own)
    (hlv : lv = lComp li (own.map (·.2)) g tt te ∨ lv = lCompN li (own.map (·.2)) g tt te)
    (hg : ∀ (s : Shared) (H : Hp) (C : Addr) (cl : List (Str × Addr)) (fp : List Addr), PGL (X.blk s H scope (compEnvC scope cl C X.env) fp) tg (own.map (·.2)) g) (ht : ∀ (s : Shared) (H : Hp) (C : Addr) (cl : List (Str × Addr)) (fp : List Addr), PTsL (X.blk s H scope (compEnvC scope cl C X.env) fp) ifs tt)
    (he : ∀ (s : Shared) (H : Hp) (C : Addr) (cl : List (Str × Addr)) (fp : List Addr), PEL (X.blk s H scope (compEnvC scope cl C X.env) fp) elt te) (hy : X.N[i]? = some y := by rfl) (hs : ∀ x, foldedSetIterable iter X.env x = pure x := by intro _; rfl) :
    PSL X (.Assign [.Name y py] (.ListComp elt [⟨tg, iter, ifs, 0⟩] scope pos) spos) (lSet i lv) := by
  refine ps_imp (ps_setLc (g := tGL X.K (own.map fun q : Str × Nat => q.2) g) (tt := tHideT (tT0 X.K tt)) (te := tHide (tL0 X.K te)) hc hN hy hyl hsw hi ok hg (fun s H C cl fp => pts_hide (ht s H C cl fp).pts) (fun s H C cl fp => pe_hide (he s H C cl fp).pe) hs) fun D σ H ⟨m, ρ, S, x, er, hl, h⟩ => ?_
  have h' : HS X D m H (liftX ρ (lv ρ S) fun d S1 => .ok (.nx (ρ.set i (some d))) S1) := h
  have hp := HS.hope h' er hl x
  have hpc : Hope X σ m H (compL li (own.map (·.2)) g tt te ρ S) := by
    rcases hlv with z | z <;> (rw [z] at hp; exact hope_seq hp)
  refine comp_read x er hpc fun ys S2 q p vs m2 H2 e x2 hn r => ?_
  rcases hlv with z | z
  · have q' : lv ρ S = .ok (.lst ys) S2 := by rw [z]; unfold lComp; rw [q]; rfl
    rw [q'] at h'
    have e' := e.trans (Ext.fresh (o := .lst vs) hn)
    exact h'.nx _ _ rfl _ _ ⟨m2, e', x2.fresh hn, (er.ext e' x.muts).set (vr_newLst x2 hn r), by simp [hl]⟩
  · have q' : lv ρ S = .ok (.ref S2.length) (S2 ++ [.lst ys]) := by rw [z]; unfold lCompN; rw [q]; rfl
    rw [q'] at h'
    obtain ⟨m3, e3, x3, w3⟩ := qv_newL x2 hn r
    have e' := e.trans e3
    exact h'.nx _ _ rfl _ _ ⟨m3, e', x3, (er.ext e' x.muts).set w3, by simp [hl]⟩
end
end MP

namespace MP
open PySem PySem.Spec PyProof.Rows L2

section
variable {K : PySem.W.Frag} {m : List Addr} {H : Hp} {S : Sto}
theorem SR.write (x : SR K m H S) {i : Nat} {a : Addr} {o' : HO} {ob' : O} (hi : m[i]? = some a) (r : Ext m H m (upd H a o') → OR K m (upd H a o') a ob') : Ext m H m (upd H a o') ∧ SR K m (upd H a o') (S.set i ob') := by
  have hm : a ∈ m := List.mem_iff_getElem?.mpr ⟨i, hi⟩
  have e : Ext m H m (upd H a o') := ⟨⟨[], by simp⟩, fun b h => .inl h, fun b u n q => by rw [upd_ne (fun z : b = a => n (by rw [z]; exact hm))]; exact q⟩
  refine ⟨e, x.nd, by simp [x.len], fun j b u h1 h2 => ?_⟩
  by_cases hj : i = j
  · subst hj
    rw [hi] at h1
    cases h1
    have hl : i < S.length := x.len ▸ (List.getElem?_eq_some_iff.mp hi).1
    rw [List.getElem?_set_self hl] at h2
    cases h2
    exact r e
  · rw [List.getElem?_set_ne hj] at h2
    exact (x.at_ j b u h1 h2).ext e x.muts (upd_ne fun z => hj (nodup_get x.nd hi (z ▸ h1)))
theorem VR.ref_at (x : SR K m H S) {v : V} {i : Nat} {ob : O} (r : VR K m H v (.ref i)) (q : S[i]? = some ob) : ∃ a, v = .ref a ∧ m[i]? = some a ∧ OR K m H a ob := by
  cases r with
  | @ref i a h => exact ⟨a, rfl, h, x.at_ i a ob h q⟩
end
def putD (f : Str) (v : D) : List (Str × D) → List (Str × D)
  | [] => [(f, v)]
  | (g, x) :: r => if g = f then (g, v) :: r else (g, x) :: putD f v r
theorem VFs.put {K : PySem.W.Frag} {m : List Addr} {H : Hp} {f : Str} {v : V} {d : D} (h : VR K m H v d) : ∀ {fs : List (Str × V)} {gs : List (Str × D)}, VFs K m H fs gs → VFs K m H (putF f v fs) (putD f d gs)
  | _, _, .nil => .cons h .nil
  | _, _, @VFs.cons _ _ _ g w e vs ds q r => by
    unfold putF putD
    by_cases z : g = f
    · rw [if_pos z, if_pos z]; exact .cons h r
    · rw [if_neg z, if_neg z]; exact .cons q (VFs.put h r)
theorem VFs.length {K : PySem.W.Frag} {m : List Addr} {H : Hp} {fs : List (Str × V)} {gs : List (Str × D)} : VFs K m H fs gs → fs.length = gs.length
  | .nil => rfl
  | .cons _ r => by simp [r.length]
section
variable {X : Cx} {e o i c : Expr} {le lo li : LE} {t : LA} {pos pos' : Pos} {x y f : Str} {C : Addr}
/-- targets = e -/
def lAsg (g : GT) (le : LE) : LS := fun ρ S => liftX ρ (le ρ S) fun d S1 => match g d ρ with
  | some ρ1 => .ok (.nx ρ1) S1
  | none => .bad
theorem psl_asg {tg : Expr} {ix : List Nat} {g : GT} (he : PEL X e le) (hg : PGL X tg ix g) (hs : swapsWithSole [tg] e pos.line X.env = pure false := by rfl) (hw : swappedStores [tg] e X.env = pure none := by rfl)
    (h1 : (assignEach [tg] X.env).map (·.2) = [assign tg X.env] := by rfl) : PSL X (.Assign [tg] e pos) (lAsg g le) := by
  refine ⟨fun pins s σ H D I ⟨m, ρ, S, x, er, hl, h⟩ => ?_⟩
  refine wpAny_Assign_stores (expr_in he I x er hl h fun d S1 q v u s1 H1 m1 I1 rv e1 x1 w er1 h2 => ?_) hs hw
  rw [h1]
  cases hgd : g d ρ with
  | none => rw [hgd] at h2; obtain ⟨fl, S', q⟩ := h2.ok; cases q
  | some ρ1 =>
    rw [hgd] at h2
    exact thn (hg.run pins s1 σ H1 v u (fun σ' H' => D.nx σ' H') I1 rv ⟨m1, H1, ρ, d, ρ1, fun _ _ z => z, w, er1, hl, hgd, fun σ' er' hl' _ _ => h2.nx ρ1 S1 rfl σ' H1 (sv_same x1 er' hl')⟩) fun _ s2 q => q
/-- a, b = e1, e2 with plain local names -/
def tAX (X : Cx) (t : LA) : TA := fun σ H Q => ∃ m ρ S, SR X.K m H S ∧ ER X.K m H σ ρ ∧ Hope X σ m H (t ρ S) ∧ ∀ ds S', t ρ S = .ok ds S' → ∀ vs H' m', Ext m H m' H' → SR X.K m' H' S' → VRs X.K m' H' vs ds → Q vs H'
theorem PAL.pa {es : List Expr} (h : PAL X es t) : PA X es (tAX X t) := ⟨fun pos pins s σ H Q I ⟨m, ρ, S, x, er, hp, k⟩ =>
  thn (h.run pos pins s σ H m ρ S I x er hp) fun us s' ⟨ds, S', vs, H', m', q, I', rv, e', x', w⟩ => ⟨vs, H', I', rv, k ds S' q vs H' m' e' x' w⟩⟩
def lPar (i j : Nat) (t : LA) : LS := fun ρ S => liftX ρ (t ρ S) fun ds S1 => match ds with
  | [a, b] => .ok (.nx ((ρ.set i (some a)).set j (some b))) S1
  | _ => .bad
theorem psl_par {i j : Nat} {a b : Expr} {px py pt : Pos} {kt k2 : Nat} {pt2 : Pos} (hc : X.calm = true) (hN : X.N.Nodup) (ha : PAL X [a, b] t) (hi : X.N[i]? = some x := by rfl) (hj : X.N[j]? = some y := by rfl) (hij : i ≠ j := by decide)
    (hx : X.env.scope.names.lookup x = some .local := by rfl) (hy : X.env.scope.names.lookup y = some .local := by rfl)
    (hw : swappedStores [.Tuple [.Name x px, .Name y py] kt pt] (.Tuple [a, b] k2 pt2) X.env = pure (some [x, y]) := by rfl)
    (hs : swapsWithSole [.Tuple [.Name x px, .Name y py] kt pt] (.Tuple [a, b] k2 pt2) pos.line X.env = pure false := by rfl) :
    PSL X (.Assign [.Tuple [.Name x px, .Name y py] kt pt] (.Tuple [a, b] k2 pt2) pos) (lPar i j t) := by
  refine ps_imp (ps_par hc hN hi hj hij hx hy ha.pa hw hs) fun D σ H ⟨m, ρ, S, x0, er, hl, h⟩ => ?_
  have h' : HS X D m H (liftX ρ (t ρ S) fun ds S1 => match ds with
    | [a, b] => .ok (.nx ((ρ.set i (some a)).set j (some b))) S1
    | _ => .bad) := h
  refine ⟨m, ρ, S, x0, er, HS.hope h' er hl x0, fun ds S1 q vs H1 m1 e1 x1 w => ?_⟩
  rw [q] at h'
  have h2 := HS.ext h' e1
  cases w with
  | nil => obtain ⟨fl, S', q⟩ := h2.ok; cases q
  | cons w1 w2 =>
    cases w2 with
    | nil => obtain ⟨fl, S', q⟩ := h2.ok; cases q
    | cons w2 w3 =>
      cases w3 with
      | cons _ _ => obtain ⟨fl, S', q⟩ := h2.ok; cases q
      | nil =>
        have er1 := er.ext e1 x0.muts
        exact ⟨_, _, rfl, h2.nx _ S1 rfl _ H1 (sv_same x1 ((er1.set w1).set w2) (by simp [hl]))⟩
/-- o.f = e, o an object of the store -/
def stFld (C : Addr) (f : Str) (S : Sto) (r d : D) : Option Sto := match r with
  | .ref i => match S[i]? with
    | some (.ins C' fs) => if C' = C ∧ fs.length < 1000 then some (S.set i (.ins C (putD f d fs))) else none
    | _ => none
  | _ => none
def liftS (o : Option Sto) (ρ : Ev) : R Fl := match o with
  | some S => .ok (.nx ρ) S
  | none => .bad
def lStF (C : Addr) (f : Str) (lo le : LE) : LS := fun ρ S => liftX ρ (le ρ S) fun d S1 => liftX ρ (lo ρ S1) fun r S2 => liftS (stFld C f S2 r d) ρ
theorem psl_fld (cl : Cls X.K C) (na : NoAttr X.K C f) (ho : PEL X o lo) (he : PEL X e le) (hs : swapsWith e (some (.Attribute o f pos')) pos.line X.env = pure false := by rfl) : PSL X (.Assign [.Attribute o f pos'] e pos) (lStF C f lo le) := by
  refine ⟨fun pins s σ H D I ⟨m, ρ, S, x, er, hl, h⟩ => ?_⟩
  refine plainObj_wpAny_Assign_Attribute (expr_in he I x er hl h fun d S1 q v u s1 H1 m1 I1 rv e1 x1 w er1 h1 => expr_in ho I1 x1 er1 hl h1 fun r S2 q2 v2 u2 s2 H2 m2 I2 rv2 e2 x2 w2 er2 h2 => ?_) hs
  cases q3 : stFld C f S2 r d with
  | none => rw [q3] at h2; obtain ⟨fl, S', q⟩ := h2.ok; cases q
  | some S3 =>
    rw [q3] at h2
    unfold stFld at q3
    split at q3
    · rename_i i
      split at q3
      · rename_i C' fs q4
        split at q3
        · rename_i hz
          obtain ⟨hC, hz⟩ := hz
          subst hC
          cases q3
          obtain ⟨a, rfl, ha, orr⟩ := VR.ref_at x2 w2 q4
          obtain rfl : u2 = Value.ref a := rv2
          cases orr with
          | @ins _ dx fs' gs hh rr =>
            refine setattr_ok I2 hh cl na (by rw [rr.length]; exact hz) rv fun s3 I3 => ?_
            obtain ⟨e3, x3⟩ := x2.write (o' := .ins C' dx (putF f v fs')) (ob' := .ins C' (putD f d fs)) ha fun e => .ins upd_same ((rr.put (w.ext e2 x1.muts)).ext e x2.muts)
            exact ⟨σ, _, I3, h2.nx ρ _ rfl σ _ ⟨m2, e3, x3, er2.ext e3 x2.muts, hl⟩⟩
        · cases q3
      · cases q3
    · cases q3
/-- o[i] = e -/
structure PSetL (X : Cx) (g : Sto → D → D → D → Option Sto) : Prop where
  run : ∀ (pins : List (Addr × Obj)) (s : Shared) (σ : L2.St) (H : Hp) (m : List Addr) (S S' : Sto) (o i v : V) (d1 d2 d3 : D) (ov iv u : Value), Inv X pins σ H s → SR X.K m H S → VR X.K m H o d1 → VR X.K m H i d2 → VR X.K m H v d3 → RelV o ov → RelV i iv → RelV v u → g S d1 d2 d3 = some S' →
    wpAny (model X.prog X.w) X.A (setItem ov iv u) (fun _ s' => ∃ H' m', Inv X pins σ H' s' ∧ Ext m H m' H' ∧ SR X.K m' H' S') X.xe s
def stSeq (S : Sto) (r i d : D) : Option Sto := match r, i with
  | .ref j, .int k => match S[j]? with
    | some (.lst xs) => (ixN xs.length k).map fun n => S.set j (.lst (xs.set n d))
    | _ => none
  | _, _ => none
theorem psetl_seq : PSetL X stSeq := ⟨fun pins s σ H m S S' o i v d1 d2 d3 ov iv u I x r1 r2 r3 e1 e2 e3 q => by
  unfold stSeq at q
  split at q
  · rename_i j k
    split at q
    · rename_i xs q1
      cases q2 : ixN xs.length k with
      | none => rw [q2] at q; cases q
      | some n =>
        rw [q2] at q
        cases q
        obtain ⟨a, rfl, ha, orr⟩ := VR.ref_at x r1 q1
        cases r2
        cases orr with
        | @lst vs _ hh rr =>
          obtain ⟨z1, z2⟩ := x.write (o' := .lst (vs.set n v)) (ob' := .lst (xs.set n d3)) ha fun e => .lst upd_same ((rr.set r3 n).ext e x.muts)
          exact thn (set_list pins s σ H _ _ v ov iv u (fun H' => H' = upd H a (.lst (vs.set n v))) I e1 e2 e3 ⟨a, vs, k, n, rfl, rfl, hh, by rw [rr.length]; exact q2, rfl⟩) fun _ s' ⟨H', I', eH⟩ => by
            subst eH
            exact ⟨_, m, I', z1, z2⟩
    · cases q
  · cases q⟩
def lStS (g : Sto → D → D → D → Option Sto) (lo li le : LE) : LS := fun ρ S => liftX ρ (le ρ S) fun d S1 => liftX ρ (lo ρ S1) fun r S2 => liftX ρ (li ρ S2) fun k S3 => liftS (g S3 r k d) ρ
theorem psl_sub {g : Sto → D → D → D → Option Sto} (hg : PSetL X g) (ho : PEL X o lo) (hi : PEL X i li) (he : PEL X e le) (hs : swapsWith e (some (.Subscript o i pos')) pos.line X.env = pure false := by rfl) : PSL X (.Assign [.Subscript o i pos'] e pos) (lStS g lo li le) := by
  refine ⟨fun pins s σ H D I ⟨m, ρ, S, x, er, hl, h⟩ => ?_⟩
  refine wpAny_Assign_Subscript (expr_in he I x er hl h fun d S1 q v u s1 H1 m1 I1 rv e1 x1 w er1 h1 => expr_in ho I1 x1 er1 hl h1 fun r S2 q2 v2 u2 s2 H2 m2 I2 rv2 e2 x2 w2 er2 h2 => expr_in hi I2 x2 er2 hl h2 fun k S3 q3 v3 u3 s3 H3 m3 I3 rv3 e3 x3 w3 er3 h3 => ?_) hs
  cases q4 : g S3 r k d with
  | none => rw [q4] at h3; obtain ⟨fl, S', q⟩ := h3.ok; cases q
  | some S4 =>
    rw [q4] at h3
    exact thn (hg.run pins s3 σ H3 m3 S3 S4 v2 v3 v r k d u2 u3 u I3 x3 (w2.ext e3 x2.muts) w3 ((w.ext e2 x1.muts).ext e3 x2.muts) rv2 rv3 rv q4) fun _ s4 ⟨H4, m4, I4, e4, x4⟩ => ⟨σ, H4, I4, h3.nx ρ S4 rfl σ H4 ⟨m4, e4, x4, er3.ext e4 x3.muts, hl⟩⟩
/-- name op= e -/
def lAug (i : Nat) (g : G2) (le : LE) : LS := fun ρ S => match ρ[i]? with
  | some (some d0) => liftX ρ (le ρ S) fun d S1 => match g S1 d0 d with
    | some r => .ok (.nx (ρ.set i (some r))) S1
    | none => .bad
  | _ => .bad
end

/-! ### a def keeps its promise -/
def fin : R Fl → R D
  | .ok (.nx _) S => .ok .non S
  | .ok (.rt d) S => .ok d S
  | .ok (.ex C fs _) S => .exc C fs S
  | _ => .bad
def bodyF (n : Nat) (lb : LS) : F := fun ds S => fin (lb (ds.map some ++ List.replicate (n - ds.length) none) S)
theorem er_start {K : PySem.W.Frag} {m : List Addr} {H : Hp} {vs : List V} {ds : List D} {n : Nat} (r : VRs K m H vs ds) : ER K m H (vs.map some ++ List.replicate (n - vs.length) none) (ds.map some ++ List.replicate (n - ds.length) none) := by
  refine ⟨fun i d h => ?_, by simp [r.length]⟩
  have hi : i < ds.length := by
    by_cases z : i < ds.length
    · exact z
    · rw [List.getElem?_append_right (by simp; omega)] at h
      obtain ⟨_, h2⟩ := List.getElem?_eq_some_iff.mp h
      simp at h2
  rw [List.getElem?_append_left (by simpa using hi), List.getElem?_map] at h
  cases q : ds[i]? with
  | none => rw [q] at h; cases h
  | some d' =>
    rw [q] at h
    cases h
    obtain ⟨v, h1, h2⟩ := r.getr q
    refine ⟨v, ?_, h2⟩
    rw [List.getElem?_append_left (by rw [List.length_map, r.length]; exact hi), List.getElem?_map, h1]
    rfl
/-- as L2.fn_of, with the guards -/
theorem fnG_of {CX : CXT} {P : Program} {w : World} {K : PySem.W.Frag} {mg : Str → Option Value} {base : Heap} {k : Nat} {f : Addr} {name qual : Str} {params : Arguments} {body : List Stmt} {scope : Scope} {dV kV doc pm cdv ct oc : Value} {an od : Option Addr}
    {osl : Array (Option Value)} {N ps : List Str} {sp : Sp} (lk : K.lookup f = some ⟨oc, od, .func (PySem.W.fnOf name qual params body scope dV kV doc pm an cdv ct), osl⟩) (hcd : PySem.W.codeIn K cdv qual = true) (S : FnScope N ps scope)
    (len : ∀ vs H Q E, sp vs H Q E → vs.length = ps.length)
    (hbody : ∀ (A : Around) (outer : List Env) (s : Shared) (H : Hp) (vs : List V) (Q : VK) (E : XK), MP.Room k (A.deeper (envOfC qual scope s.heap.objs.size f cdv)) → sp vs H Q E →
      ∃ t, PSs (cxOf CX P w K mg base N qual scope f cdv A outer s H E) body t ∧ t { nx := fun _ H' => Q .non H', rt := Q } (start N vs) H) :
    MP.FnOk P w K mg base CX (k + 1) f (PySem.W.fnOf name qual params body scope dV kV doc pm an cdv ct) ps sp := by
  refine ⟨len, fun A outer s H args us vs Q E hr e0 hb r hsp => ?_⟩
  have hl := len _ _ _ _ hsp
  have KX : K.In s.heap := e0.mod.kin.keeps fun b o e => (e0.bs b o e).1
  have lim : s.heap.NoLimit := e0.mod.nolimit.keeps fun b o e => (e0.bs b o e).1
  have hkind : ∀ y ∈ ps.zip us, scope.names.lookup y.1 = some .local ∨ (scope.names.lookup y.1 = some .cell ∧ ((cellsFrom (s.heap.objs.size + 1) scope.names []).lookup y.1).isSome = true) := fun ⟨n, v⟩ hy => by
    rcases S.par n (List.of_mem_zip hy).1 with q | q
    · exact .inl q
    · exact .inr ⟨q, PySem.W.cellsFrom_some _ _ _ (.inl q)⟩
  refine codeAny_call_function hr.depth (KX _ _ lk) rfl S.co S.gen rfl (PySem.W.codeRec_of KX hcd) (hb _ _ _ _ ?_)
  refine wpAny_newFunctionEnv_cells S.kind hkind fun env he s1 x => ?_
  subst he
  refine ⟨lim.keeps x.toInCall.keep, codeAny_func ?_⟩
  obtain ⟨t, ht, hq⟩ := hbody A outer s H vs Q E (hr.deeper _) hsp
  have I : Inv (cxOf CX P w K mg base N qual scope f cdv A outer s H E) [] (start N vs) H s1 := inv_start S hr.hd e0 hl r x
  refine wpAny_mono (ht.run [] s1 (start N vs) H _ I hq) (fun fl s' hs => ?_) fun e s' hs => hs
  have fin : ∀ {σ' : L2.St} {H' : Hp} {v : V} {u : Value}, Inv (cxOf CX P w K mg base N qual scope f cdv A outer s H E) [] σ' H' s' → RelV v u → Q v H' → CE outer P w H s Q u s' :=
    fun {σ' H' v u} J rv q => ⟨v, H', J.os, J.bare, J.base, J.hok, rv, q⟩
  cases fl with
  | ret u =>
    obtain ⟨v, σ', H', J, rv, q⟩ := hs
    exact fin J rv q
  | next =>
    obtain ⟨σ', H', J, q⟩ := hs
    exact fin (v := V.non) (u := Value.none) J rfl q
  | brk =>
    obtain ⟨_, _, _, q⟩ := hs
    exact False.elim q
  | cont =>
    obtain ⟨_, _, _, q⟩ := hs
    exact False.elim q
section
variable {P : Program} {w : World} {K : PySem.W.Frag} {mg : Str → Option Value} {base : Heap}
theorem Fun.okG {x qual : Str} {st : Stmt} {f : Addr} {fd : FuncData} {N ps : List Str} {k : Nat} {sp : Sp} (F : Fun K x qual st f fd) (S : FnScope N ps (defScope st)) (len : ∀ vs H Q E, sp vs H Q E → vs.length = ps.length)
    (hbody : ∀ (cdv : Value) (A : Around) (outer : List Env) (s : Shared) (H : Hp) (vs : List V) (Q : VK) (E : XK), MP.Room k (A.deeper (envOfC qual (defScope st) s.heap.objs.size f cdv)) → sp vs H Q E →
      ∃ t, PSs (cxOf (L2.CX P w) P w K mg base N qual (defScope st) f cdv A outer s H E) (defBody st) t ∧ t { nx := fun _ H' => Q .non H', rt := Q } (L2.start N vs) H) : MP.FnOk P w K mg base (L2.CX P w) (k + 1) f fd ps sp := by
  obtain ⟨oc, od, kV, doc, pm, an, cdv, ct, osl, rfl, lk, hcd⟩ := F.ex
  exact fnG_of lk hcd S len fun A outer s H vs Q E hr hsp => hbody cdv A outer s H vs Q E hr hsp
abbrev cxL (P : Program) (w : World) (K : PySem.W.Frag) (mg : Str → Option Value) (base : Heap) (N : List Str) (qual : Str) (sc : Scope) (f : Addr) (cdv : Value) (A : Around) (outer : List Env) (s : Shared) (H : Hp) (E : XK) : Cx := cxOf (L2.CX P w) P w K mg base N qual sc f cdv A outer s H E
theorem Fun.okL {x qual : Str} {st : Stmt} {f : Addr} {fd : FuncData} {N ps : List Str} {k : Nat} {lb : LS} (Fn : Fun K x qual st f fd) (S : FnScope N ps (defScope st))
    (hb : ∀ (cdv : Value) (A : Around) (outer : List Env) (s : Shared) (H : Hp) (E : XK), Room k (A.deeper (envOfC qual (defScope st) s.heap.objs.size f cdv)) → PSsL (cxL P w K mg base N qual (defScope st) f cdv A outer s H E) (defBody st) lb) :
    FnL P w K mg base (k + 1) f fd ps (bodyF N.length lb) := by
  refine Fun.okG Fn S (fun vs H Q E h => h.1) fun cdv A outer s H vs Q E hr h => ⟨_, hb cdv A outer s H E hr, ?_⟩
  obtain ⟨hl, m, S0, ds, x0, r, nb, q1, q2⟩ := h
  refine ⟨m, ds.map some ++ List.replicate (N.length - ds.length) none, S0, x0, ?_, ?_, ?_⟩
  · exact er_start r
  · simp [L2.start, r.length]
  · have hB : ∀ a, bodyF N.length lb ds S0 = a → fin (lb (ds.map some ++ List.replicate (N.length - ds.length) none) S0) = a := fun a h => h
    generalize hA : lb (ds.map some ++ List.replicate (N.length - ds.length) none) S0 = A0 at hB
    have hb0 : bodyF N.length lb ds S0 = fin A0 := by unfold bodyF; rw [hA]
    rw [hb0] at nb q1 q2
    refine ⟨?_, fun ρ' S' e σ' H' ⟨m', e', x', er', _⟩ => ?_, fun d S' e v H' z => ?_, fun ρ' S' e => ?_, fun ρ' S' e => ?_, fun C fs ρ' S' e u s' z => ?_⟩
    · cases A0 with
      | bad => exact absurd rfl nb
      | exc C fs S' => exact absurd rfl nb
      | ok fl S' => exact ⟨fl, S', rfl⟩
    · subst e
      exact q1 .non S' rfl .non H' ⟨m', e', x', .non⟩
    · subst e
      exact q1 d S' rfl v H' z
    · subst e
      exact absurd rfl nb
    · subst e
      exact absurd rfl nb
    · subst e
      refine takes_of (E := E) rfl rfl rfl rfl u s' (XE.imp z fun cls d σ' H' w => ?_)
      obtain ⟨w1, dd, vs', m', w2, w3, w4, w5, w6⟩ := w
      exact q2 C fs S' rfl cls d H' ⟨w1, dd, vs', m', w2, w3, w4, w5, w6.1⟩
end
end MP

namespace MP
open PySem PySem.Spec PyProof.Rows L2

section
variable {X : Cx}
/-! ### ints -/
def gSub : G2 := g2I fun i j => some (.int (i - j))
theorem opl_sub : OpL X (binaryOp .Sub) gSub := opl_int0 op_sub fun i j _ _ _ => .int _
def gMulI : G2 := g2I fun i j => if i.natAbs.log2 + j.natAbs.log2 < 1000000 then some (.int (i * j)) else none
theorem opl_mulI : OpL X (binaryOp .Mult) gMulI := opl_int op_mulW fun i j d e => by
  split at e
  · cases e; exact ⟨‹_›, fun _ _ _ => .int _⟩
  · cases e
def gDiv : G2 := g2I fun i j => if 0 < j ∧ j.natAbs.log2 < 9000 then some (.int (i / j)) else none
theorem opl_div : OpL X (binaryOp .FloorDiv) gDiv := opl_int op_fdivW fun i j d e => by
  split at e
  · cases e; exact ⟨‹_›, fun _ _ _ => .int _⟩
  · cases e
def gMod : G2 := g2I fun i j => if 0 < j then some (.int (i % j)) else none
theorem opl_mod : OpL X (binaryOp .Mod) gMod := opl_int op_mod fun i j d e => by
  split at e
  · cases e; exact ⟨‹_›, fun _ _ _ => .int _⟩
  · cases e
def gPow : G2 := g2I fun i j => if 0 ≤ j ∧ j ≤ 1000000 ∧ i.natAbs < 2 ^ 64 then some (.int (i ^ j.toNat)) else none
theorem opl_pow : OpL X (binaryOp .Pow) gPow := opl_int op_pow fun i j d e => by
  split at e
  · cases e; exact ⟨‹_›, fun _ _ _ => .int _⟩
  · cases e
def gIAdd : G2 := g2I fun i j => some (.int (i + j))
def gISub : G2 := g2I fun i j => some (.int (i - j))
def gLtI : G2 := g2I fun i j => some (.bl (decide (i < j)))
def gLeI : G2 := g2I fun i j => some (.bl (decide (i ≤ j)))
def gGtI : G2 := g2I fun i j => some (.bl (decide (j < i)))
def gGeI : G2 := g2I fun i j => some (.bl (decide (j ≤ i)))
theorem opl_ltI : OpL X (compareOp .Lt) gLtI := opl_int0 op_lt fun i j _ _ _ => .bl _
theorem opl_leI : OpL X (compareOp .LtE) gLeI := opl_int0 op_le fun i j _ _ _ => .bl _
theorem opl_gtI : OpL X (compareOp .Gt) gGtI := opl_int0 op_gt fun i j _ _ _ => .bl _
theorem opl_geI : OpL X (compareOp .GtE) gGeI := opl_int0 op_ge fun i j _ _ _ => .bl _
def gLtS : G2 := g2S fun i j => some (.bl (decide (i.cps.toList < j.cps.toList)))
theorem opl_ltS : OpL X (compareOp .Lt) gLtS := .of op_lt_str fun H m S x y dx dy d q rx ry e => by
  obtain ⟨i, j, e1, e2, e3⟩ := g2S_inv e
  cases e3
  exact ⟨i, j, vw_str rx e1, vw_str ry e2, qv_same q (.bl _)⟩

/-! ### == of data -/
mutual
def toPD : D → Option PyData
  | .non => some .none
  | .bl b => some (.bool b)
  | .int i => some (.int i)
  | .str s => some (.str s)
  | .tup xs => (toPDs xs).map .tuple
  | .ftup xs => (toPDs xs).map .tuple
  | .lst xs => (toPDs xs).map .list
  | _ => none
def toPDs : List D → Option (List PyData)
  | [] => some []
  | x :: xs => (toPD x).bind fun a => (toPDs xs).map fun b => a :: b
end
section
variable {K : PySem.W.Frag} {m : List Addr} {H : Hp}
mutual
theorem VR.dp {v : V} {d : D} {p : PyData} : VR K m H v d → toPD d = some p → Dp K H v p
  | .non, e => by simp only [toPD] at e; cases e; exact .non
  | .bl b, e => by simp only [toPD] at e; cases e; exact .bl b
  | .int b, e => by simp only [toPD] at e; cases e; exact .int b
  | .str b, e => by simp only [toPD] at e; cases e; exact .str b
  | @VR.tup _ _ _ a vs ds h r, e => by
    simp only [toPD] at e
    cases q : toPDs ds with
    | none => rw [q] at e; cases e
    | some ps => rw [q] at e; cases e; exact .tup (SqT.of h) (r.dps q)
  | @VR.ftup _ _ _ a vs ds o hd h r, e => by
    simp only [toPD] at e
    cases q : toPDs ds with
    | none => rw [q] at e; cases e
    | some ps => rw [q] at e; cases e; exact .tup (SqT.rd (.inr ⟨o, h⟩)) (r.dps q)
  | @VR.lst _ _ _ a vs ds n h r, e => by
    simp only [toPD] at e
    cases q : toPDs ds with
    | none => rw [q] at e; cases e
    | some ps => rw [q] at e; cases e; exact .lst (.inl h) (r.dps q)
  | @VR.lstK _ _ _ a vs ds o its n hk h1 h2 h3 h4 h5 r, e => by
    simp only [toPD] at e
    cases q : toPDs ds with
    | none => rw [q] at e; cases e
    | some ps => rw [q] at e; cases e; exact .lst (.inr ⟨o, its, n, hk, h1, h2, h3, h4, h5⟩) (r.dps q)
  | .dct _ _ _, e => by simp only [toPD] at e; cases e
  | .dctT _ _ _, e => by simp only [toPD] at e; cases e
  | .obj _ _ _, e => by simp only [toPD] at e; cases e
  | .exn0 _ _, e => by simp only [toPD] at e; cases e
  | .exnD _ _ _ _ _, e => by simp only [toPD] at e; cases e
  | .ref _, e => by simp only [toPD] at e; cases e
theorem VRs.dps {v : List V} {d : List D} {p : List PyData} : VRs K m H v d → toPDs d = some p → DpAll K H v p
  | .nil, e => by simp only [toPDs] at e; cases e; exact .nil
  | @VRs.cons _ _ _ v d vs ds h r, e => by
    simp only [toPDs] at e
    cases q : toPD d with
    | none => rw [q] at e; cases e
    | some a =>
      rw [q] at e
      cases q2 : toPDs ds with
      | none => rw [q2] at e; cases e
      | some b => rw [q2] at e; cases e; exact .cons (h.dp q) (r.dps q2)
end
/-- a place of the store is read one deep -/
theorem VR.dpv {S : Sto} (x : SR K m H S) {v : V} {d : D} {p : PyData} (r : VR K m H v d) (e : toPD (vw S d) = some p) : Dp K H v p := by
  cases r with
  | @ref i a h =>
    dsimp only [vw] at e
    cases q : S[i]? with
    | none => rw [q] at e; simp only [toPD] at e; cases e
    | some ob =>
      rw [q] at e
      have z := x.at_ i a ob h q
      cases z with
      | @lst vs ds hh rr =>
        simp only [toPD] at e
        cases q2 : toPDs ds with
        | none => rw [q2] at e; cases e
        | some ps => rw [q2] at e; cases e; exact .lst (SqL.of hh) (rr.dps q2)
      | dct _ _ => simp only [toPD] at e; cases e
      | dctT _ _ => simp only [toPD] at e; cases e
      | ins _ _ => simp only [toPD] at e; cases e
  | non => exact VR.dp (m := m) .non e
  | bl b => exact VR.dp (m := m) (.bl b) e
  | int b => exact VR.dp (m := m) (.int b) e
  | str b => exact VR.dp (m := m) (.str b) e
  | tup h r => exact VR.dp (m := m) (.tup h r) e
  | ftup hd h r => exact VR.dp (m := m) (.ftup hd h r) e
  | lst n h r => exact VR.dp (.lst n h r) e
  | lstK hk h1 h2 h3 h4 h5 r => exact VR.dp (m := m) (.lstK hk h1 h2 h3 h4 h5 r) e
  | dct n h r => exact VR.dp (.dct n h r) e
  | dctT n h r => exact VR.dp (.dctT n h r) e
  | obj n h r => exact VR.dp (.obj n h r) e
  | exn0 n h => exact VR.dp (.exn0 n h) e
  | exnD n nd h hd r => exact VR.dp (.exnD n nd h hd r) e
end
/-- plain things that are told apart at once -/
def eqS : D → D → Option Bool
  | .int i, .int j => some (decide (i = j))
  | .str i, .str j => some (decide (i = j))
  | .bl i, .bl j => some (decide (i = j))
  | .non, .non => some true
  | .non, .int _ | .int _, .non | .non, .str _ | .str _, .non | .non, .bl _ | .bl _, .non => some false
  | .int _, .str _ | .str _, .int _ | .bl _, .str _ | .str _, .bl _ => some false
  | _, _ => none
def eqP (S : Sto) (x y : D) : Option Bool := (toPD (vw S x)).bind fun a => (toPD (vw S y)).bind fun b => if SeqAt.shaped a = true ∧ SeqAt.shaped b = true then some (PyData.eqv a b) else none
def eqD (S : Sto) (x y : D) : Option Bool := (eqS x y).or (eqP S x y)
def gEq : G2 := fun S x y => (eqD S x y).map .bl
def gNe : G2 := fun S x y => (eqD S x y).map fun b => .bl (!b)
theorem eqS_rEq {K : PySem.W.Frag} {m : List Addr} {H : Hp} {x y : V} {dx dy : D} {b : Bool} (rx : VR K m H x dx) (ry : VR K m H y dy) (h : eqS dx dy = some b) : scal x y = true ∧ decide (x = y) = b := by
  cases rx <;> cases ry <;> simp only [eqS] at h <;> (try cases h) <;> refine ⟨rfl, ?_⟩ <;> simp
theorem eqP_inv {S : Sto} {x y : D} {b : Bool} (h : eqP S x y = some b) : ∃ p q, toPD (vw S x) = some p ∧ toPD (vw S y) = some q ∧ SeqAt.shaped p = true ∧ SeqAt.shaped q = true ∧ PyData.eqv p q = b := by
  unfold eqP at h
  cases q1 : toPD (vw S x) with
  | none => rw [q1] at h; cases h
  | some p =>
    rw [q1] at h
    cases q2 : toPD (vw S y) with
    | none => rw [q2] at h; cases h
    | some q =>
      rw [q2] at h
      dsimp only [Option.bind] at h
      split at h
      · rename_i z
        cases h
        exact ⟨p, q, rfl, rfl, z.1, z.2, rfl⟩
      · cases h
theorem opl_eq (hu : X.A.units + 64 < cLine) : OpL X (compareOp .Eq) gEq := ⟨fun pins s σ H m S x y dx dy d v u I q rx ry ex ey e => by
  unfold gEq eqD at e
  cases z : eqS dx dy with
  | some b =>
    rw [z] at e
    cases e
    obtain ⟨h1, h2⟩ := eqS_rEq rx ry z
    exact thn (op_eq pins s σ H x y v u _ I ex ey ⟨h1, by rw [h2]; exact qv_same q (.bl b)⟩) fun _ _ z => vp_of z
  | none =>
    rw [z] at e
    cases z2 : eqP S dx dy with
    | none => rw [z2] at e; cases e
    | some b =>
      rw [z2] at e
      cases e
      obtain ⟨p, p', h1, h2, h3, h4, h5⟩ := eqP_inv z2
      exact thn (op_eqD hu pins s σ H x y v u _ I ex ey ⟨p, p', rx.dpv q h1, ry.dpv q h2, h3, h4, by rw [h5]; exact qv_same q (.bl b)⟩) fun _ _ z => vp_of z⟩
theorem opl_ne (hu : X.A.units + 64 < cLine) : OpL X (compareOp .NotEq) gNe := ⟨fun pins s σ H m S x y dx dy d v u I q rx ry ex ey e => by
  unfold gNe eqD at e
  cases z : eqS dx dy with
  | some b =>
    rw [z] at e
    cases e
    obtain ⟨h1, h2⟩ := eqS_rEq rx ry z
    exact thn (op_ne pins s σ H x y v u _ I ex ey ⟨h1, by rw [h2]; exact qv_same q (.bl _)⟩) fun _ _ z => vp_of z
  | none =>
    rw [z] at e
    cases z2 : eqP S dx dy with
    | none => rw [z2] at e; cases e
    | some b =>
      rw [z2] at e
      cases e
      obtain ⟨p, p', h1, h2, h3, h4, h5⟩ := eqP_inv z2
      exact thn (op_neD hu pins s σ H x y v u _ I ex ey ⟨p, p', rx.dpv q h1, ry.dpv q h2, h3, h4, by rw [h5]; exact qv_same q (.bl _)⟩) fun _ _ z => vp_of z⟩
/-- is None -/
def isNonD : D → Bool
  | .non => true
  | _ => false
def gIsN : G2 := fun _ x y => match y with
  | .non => some (.bl (isNonD x))
  | _ => none
def gNotN : G2 := fun _ x y => match y with
  | .non => some (.bl (!isNonD x))
  | _ => none
theorem vr_non {K : PySem.W.Frag} {m : List Addr} {H : Hp} {v : V} {d : D} (r : VR K m H v d) : decide (v = .non) = isNonD d := by
  cases r <;> simp [isNonD]
theorem opl_isN : OpL X (compareOp .Is) gIsN := .of op_isN fun H m S x y dx dy d q rx ry e => by
  unfold gIsN at e
  split at e
  · cases e
    cases ry
    exact ⟨rfl, by rw [vr_non rx]; exact qv_same q (.bl _)⟩
  · cases e
theorem opl_notN : OpL X (compareOp .IsNot) gNotN := .of op_notN fun H m S x y dx dy d q rx ry e => by
  unfold gNotN at e
  split at e
  · cases e
    cases ry
    exact ⟨rfl, by rw [vr_non rx]; exact qv_same q (.bl _)⟩
  · cases e

/-! ### built-ins -/
def gLen : GC := fun S ds => match ds with
  | [d] => match vw S d with
    | .lst xs => some (.int xs.length)
    | .tup xs => some (.int xs.length)
    | .ftup xs => some (.int xs.length)
    | .str z => if z.length ≤ sizeLine then some (.int z.length) else none
    | _ => none
  | _ => none
theorem VRs.one {K : PySem.W.Frag} {m : List Addr} {H : Hp} {vs : List V} {d : D} (r : VRs K m H vs [d]) : ∃ v, vs = [v] ∧ VR K m H v d := by
  cases r with
  | cons h r => cases r; exact ⟨_, rfl, h⟩
theorem VRs.two {K : PySem.W.Frag} {m : List Addr} {H : Hp} {vs : List V} {d e : D} (r : VRs K m H vs [d, e]) : ∃ v w, vs = [v, w] ∧ VR K m H v d ∧ VR K m H w e := by
  cases r with
  | cons h r =>
    cases r with
    | cons h' r => cases r; exact ⟨_, _, rfl, h, h'⟩
theorem cl_len : CallL X (.builtin "len") gLen := .of call_len fun H m S xs ds d q r e => by
  unfold gLen at e
  split at e
  · rename_i d0
    obtain ⟨v, rfl, rv⟩ := r.one
    split at e
    · rename_i ys e1
      cases e
      obtain ⟨a, vs, rfl, h1, r1⟩ := vw_lst q rv e1
      exact ⟨_, ys.length, rfl, .inl ⟨vs, h1, r1.length.symm⟩, qv_same q (.int _)⟩
    · rename_i ys e1
      cases e
      obtain ⟨a, vs, rfl, h1, r1⟩ := vw_tup rv e1
      exact ⟨_, ys.length, rfl, .inr ⟨vs, SqT.of h1, r1.length.symm⟩, qv_same q (.int _)⟩
    · rename_i ys e1
      cases e
      obtain ⟨a, vs, o, rfl, _, h1, r1⟩ := vw_ftup rv e1
      exact ⟨_, ys.length, rfl, .inr ⟨vs, SqT.rd (.inr ⟨o, h1⟩), r1.length.symm⟩, qv_same q (.int _)⟩
    · rename_i z e1
      split at e
      · cases e
        cases vw_str rv e1
        exact ⟨_, z.length, rfl, ⟨‹_›, rfl⟩, qv_same q (.int _)⟩
      · cases e
    · cases e
  · cases e
def gAbs : GC := fun _ ds => match ds with
  | [.int i] => some (.int (if i < 0 then -i else i))
  | _ => none
theorem cl_abs : CallL X (.builtin "abs") gAbs := .of call_abs fun H m S xs ds d q r e => by
  unfold gAbs at e
  split at e
  · cases e
    obtain ⟨v, rfl, rv⟩ := r.one
    cases rv
    exact ⟨_, rfl, qv_same q (.int _)⟩
  · cases e
def gMin2 : GC := fun _ ds => match ds with
  | [.int i, .int j] => some (.int (if j < i then j else i))
  | _ => none
theorem cl_min2 (hc : X.calm = true) : CallL X (.builtin "min") gMin2 := .of (call_min2 hc) fun H m S xs ds d q r e => by
  unfold gMin2 at e
  split at e
  · cases e
    obtain ⟨v, w, rfl, rv, rw'⟩ := r.two
    cases rv
    cases rw'
    exact ⟨_, _, rfl, qv_same q (.int _)⟩
  · cases e
def gMax2 : GC := fun _ ds => match ds with
  | [.int i, .int j] => some (.int (if j > i then j else i))
  | _ => none
theorem cl_max2 (hc : X.calm = true) : CallL X (.builtin "max") gMax2 := .of (call_max2 hc) fun H m S xs ds d q r e => by
  unfold gMax2 at e
  split at e
  · cases e
    obtain ⟨v, w, rfl, rv, rw'⟩ := r.two
    cases rv
    cases rw'
    exact ⟨_, _, rfl, qv_same q (.int _)⟩
  · cases e
def blsOf : List D → Option (List Bool)
  | [] => some []
  | .bl b :: r => (blsOf r).map fun bs => b :: bs
  | _ => none
theorem vrs_bls {K : PySem.W.Frag} {m : List Addr} {H : Hp} : ∀ {vs : List V} {ds : List D} {bs : List Bool}, VRs K m H vs ds → blsOf ds = some bs → vs = bs.map V.bl
  | _, _, bs, .nil, e => by simp only [blsOf] at e; cases e; rfl
  | _, _, bs, @VRs.cons _ _ _ v d vs ds h r, e => by
    cases h with
    | bl b =>
      simp only [blsOf] at e
      cases q : blsOf ds with
      | none => rw [q] at e; cases e
      | some cs => rw [q] at e; cases e; rw [vrs_bls r q]; rfl
    | _ => simp only [blsOf] at e; cases e
def gAll : GC := fun S ds => match ds with
  | [d] => match vw S d with
    | .lst xs => (blsOf xs).map fun bs => .bl (bs.all id)
    | _ => none
  | _ => none
def gAny : GC := fun S ds => match ds with
  | [d] => match vw S d with
    | .lst xs => (blsOf xs).map fun bs => .bl (bs.any id)
    | _ => none
  | _ => none
theorem cl_all (hc : X.calm = true) : CallL X (.builtin "all") gAll := .of (cr_all hc) fun H m S xs ds d q r e => by
  unfold gAll at e
  split at e
  · obtain ⟨v, rfl, rv⟩ := r.one
    split at e
    · rename_i ys e1
      obtain ⟨a, vs, rfl, h1, r1⟩ := vw_lst q rv e1
      cases q2 : blsOf ys with
      | none => rw [q2] at e; cases e
      | some bs =>
        rw [q2] at e
        cases e
        exact ⟨a, bs, rfl, by rw [← vrs_bls r1 q2]; exact h1, qv_same q (.bl _)⟩
    · cases e
  · cases e
def gTuple : GC := fun S ds => match ds with
  | [d] => match vw S d with
    | .lst xs => some (.tup xs)
    | .tup xs => some (.tup xs)
    | _ => none
  | _ => none
theorem cl_tuple : CallL X (.type "tuple") gTuple := .of call_tuple_of fun H m S xs ds d q r e => by
  unfold gTuple at e
  split at e
  · obtain ⟨v, rfl, rv⟩ := r.one
    split at e
    · rename_i ys e1
      cases e
      obtain ⟨a, vs, rfl, h1, r1⟩ := vw_lst q rv e1
      exact ⟨a, vs, rfl, .inl ⟨h1, fun l hl => qv_new q hl (vr_newTup q hl r1)⟩⟩
    · rename_i ys e1
      cases e
      obtain ⟨a, vs, rfl, h1, r1⟩ := vw_tup rv e1
      exact ⟨a, vs, rfl, .inr ⟨SqT.of h1, qv_same q (.tup h1 r1)⟩⟩
    · cases e
  · cases e
def gList : GC := fun S ds => match ds with
  | [d] => match vw S d with
    | .lst xs => some (.lst xs)
    | .tup xs => some (.lst xs)
    | .ftup xs => some (.lst xs)
    | _ => none
  | _ => none
theorem cl_list : CallL X (.type "list") gList := .of call_list_of fun H m S xs ds d q r e => by
  unfold gList at e
  split at e
  · obtain ⟨v, rfl, rv⟩ := r.one
    split at e
    · rename_i ys e1
      cases e
      obtain ⟨a, vs, rfl, h1, r1⟩ := vw_lst q rv e1
      exact ⟨a, vs, rfl, .inl h1, fun l hl => qv_new q hl (vr_newLst q hl r1)⟩
    · rename_i ys e1
      cases e
      obtain ⟨a, vs, rfl, h1, r1⟩ := vw_tup rv e1
      exact ⟨a, vs, rfl, .inr (SqT.of h1), fun l hl => qv_new q hl (vr_newLst q hl r1)⟩
    · rename_i ys e1
      cases e
      obtain ⟨a, vs, o, rfl, _, h1, r1⟩ := vw_ftup rv e1
      exact ⟨a, vs, rfl, .inr (SqT.rd (.inr ⟨o, h1⟩)), fun l hl => qv_new q hl (vr_newLst q hl r1)⟩
    · cases e
  · cases e
/-- str of an int, of a text -/
def gStr : GC := fun _ ds => match ds with
  | [.int i] => if i.natAbs.log2 < 1920 then some (.str (toString i)) else none
  | [.str z] => some (.str z)
  | _ => none
/-- repr of an int, a truth -/
def gRepr : GC := fun _ ds => match ds with
  | [.int i] => if i.natAbs.log2 < 1920 then some (.str (toString i)) else none
  | [.bl b] => some (.str (if b then "True" else "False"))
  | _ => none
end
end MP

namespace MP
open PySem PySem.Spec PyProof.Rows L2

/-! ### what a thing is -/
inductive Tg where
  | non | bl | int | str | tup | lst | dct | obj (C : Addr)
  deriving DecidableEq
def tyG : Tg → Value
  | .non => .type "NoneType"
  | .bl => .type "bool"
  | .int => .type "int"
  | .str => .type "str"
  | .tup => .type "tuple"
  | .lst => .type "list"
  | .dct => .type "dict"
  | .obj C => .ref C
def tgD : D → Option Tg
  | .non => some .non
  | .bl _ => some .bl
  | .int _ => some .int
  | .str _ => some .str
  | .tup _ => some .tup
  | .ftup _ => some .tup
  | .lst _ => some .lst
  | .dct _ _ => some .dct
  | .obj C _ => some (.obj C)
  | .exn _ _ => none
  | .ref _ => none
structure OwnOk (K : PySem.W.Frag) (C : Addr) : Prop where
  cl : Cls K C
  ha : PySem.W.findIn K (.ref C) "__class__" = some (some (.builtin "object.__class__"))
  hn : PySem.W.specialIn K (.builtin "object.__class__") "__get__" = some (some (.builtin "getset_descriptor.__get__"))
  htk : PySem.W.takesIn K (.builtin "object.__class__") = some true
  hm : PySem.W.mroIn K C (.type "object") = some true
section
variable {X : Cx} {pins : List (Addr × Obj)} {σ : L2.St} {H : Hp} {s : Shared} {m : List Addr} {S : Sto}
/-- what the library's rules ask of a value of that type -/
def Kit (K : PySem.W.Frag) (s : Shared) (u t : Value) : Prop := ∃ P : Heap → Prop, PySem.W.KitX K u t P ∧ P s.heap ∧ u ≠ .builtin "__main__.__loader__#opaque"
theorem kit_rd {a : Addr} {kvs : List (Key × V)} (I : Inv X pins σ H s) (h : Rd H a (.dK kvs)) : Kit X.K s (.ref a) (.type "dict") := by
  rcases h with h | ⟨ob, h⟩
  · exact kit_of I (x := .ref a) rfl (.base (.dK h))
  · exact kit_of I (x := .ref a) rfl (.fDict h)
theorem kit_rdT {a : Addr} {kvs : List (List Key × V)} (I : Inv X pins σ H s) (h : Rd H a (.dT kvs)) : Kit X.K s (.ref a) (.type "dict") := by
  rcases h with h | ⟨ob, h⟩
  · exact kit_of I (x := .ref a) rfl (.base (.dT h))
  · obtain ⟨_, _, _, vs, _, o, es, ep, h1, h2, _⟩ := (show ObjOk X.prog X.w H s.heap a (.frz ob (.dT kvs)) from I.hok a _ h)
    exact ⟨_, PySem.W.kitx_dict, ⟨o, h1, h2.1⟩, fun z => nomatch z⟩
theorem kit_lst {a : Addr} {xs : List V} (I : Inv X pins σ H s) (h : Rd H a (.lst xs)) : Kit X.K s (.ref a) (.type "list") := by
  rcases h with h | ⟨ob, h⟩
  · exact kit_of I (x := .ref a) rfl (.base (.lst h))
  · exact kit_of I (x := .ref a) rfl (.base (.frz h))
theorem kit_d {v : V} {u : Value} {d : D} {t : Tg} (I : Inv X pins σ H s) (x : SR X.K m H S) (r : RelV v u) (w : VR X.K m H v d) (ht : tgD (vw S d) = some t) (ho : ∀ C, t = .obj C → OwnOk X.K C) : Kit X.K s u (tyG t) := by
  cases w with
  | non => cases ht; exact kit_of I r (.base .non)
  | bl b => cases ht; exact kit_of I r (.base (.bl b))
  | int b => cases ht; exact kit_of I r (.base (.int b))
  | str b => cases ht; exact kit_of I r (.base (.str b))
  | tup h _ => cases ht; exact kit_of I r (.base (.tup h))
  | ftup _ h _ => cases ht; exact kit_of I r (.fTuple h)
  | lst n h _ => cases ht; cases r; exact kit_lst I h
  | lstK hk h1 h2 h3 h4 h5 _ => cases ht; exact kit_of I r (.kList hk h1)
  | dct n h _ => cases ht; cases r; exact kit_rd I (.inl h)
  | dctT n h _ => cases ht; cases r; exact kit_rdT I (.inl h)
  | @obj a C dx fs gs n h _ =>
    cases ht
    have o := ho C rfl
    exact kit_of I r (.base (.ins h o.cl o.ha o.hn o.htk o.hm))
  | exn0 n h => cases ht
  | exnD n nd h hd _ => cases ht
  | @ref i a h =>
    dsimp only [vw] at ht
    cases q : S[i]? with
    | none => rw [q] at ht; cases ht
    | some ob =>
      rw [q] at ht
      cases r
      cases x.at_ i a ob h q with
      | lst h _ => cases ht; exact kit_lst I (.inl h)
      | dct h _ => cases ht; exact kit_rd I (.inl h)
      | dctT h _ => cases ht; exact kit_rdT I (.inl h)
      | @ins C dx fs gs h _ =>
        cases ht
        have o := ho C rfl
        exact kit_of I (x := .ref a) rfl (.base (.ins h o.cl o.ha o.hn o.htk o.hm))
end

/-! ### isinstance -/
abbrev Tab := Tg → Option Bool
structure IsiOk (K : PySem.W.Frag) (c : Value) (tab : Tab) : Prop where
  one : ∀ t b, tab t = some b → PySem.W.kitOne K (tyG t) c = some b ∧ ∀ C, t = .obj C → OwnOk K C
section
variable {X : Cx} {e ce : Expr} {pos p : Pos} {l : LE} {cv : Value} {cw : V} {tab : Tab}
def gIsi (tab : Tab) (S : Sto) (d : D) : Option D := ((tgD (vw S d)).bind tab).map .bl
def lIsi (tab : Tab) (l : LE) : LE := fun ρ S => (l ρ S).bind fun d S1 => lift1 (gIsi tab S1 d) S1
theorem pel_isi (hg : Gl X "isinstance") (hm : X.mg "isinstance" = none) (he : PEL X e l) (hc : PE X ce (tC cw)) (hcv : ClsV cw cv) (ok : IsiOk X.K cv tab)
    (hs : starEach [e, ce] X.env = (false, eval e X.env) :: starEach [ce] X.env := by rfl) (hs2 : starEach [ce] X.env = (false, eval ce X.env) :: starEach [] X.env := by rfl)
    (hpl : (backTo pos (starEach [ce] X.env)).any (·.1) = false := by rfl) : PEL X (.Call (.Name "isinstance" p) [e, ce] [] pos) (lIsi tab l) := by
  refine ⟨fun pins s σ H m ρ S I x r hp => ?_⟩
  refine wpAny_Call_Name_kw (ld_blt I hg hm (u := .builtin "isinstance") (by decide +kernel) ?_ (by decide) (by decide))
  refine PyProof.Rows.callWith_builtin1 ?_ hs hpl
  rw [hs]
  show wpAny _ _ (spliced ((false, eval e X.env) :: backTo pos (starEach [ce] X.env))) _ _ s
  refine Calls.spliced_cons (run_seq he I x r hp fun d S1 q1 v u s1 H1 m1 I1 rv e1 x1 w1 r1 hp1 => ?_)
  rw [hs2]
  show wpAny _ _ (spliced ((false, eval ce X.env) :: backTo pos (starEach [] X.env))) _ _ s1
  refine Calls.spliced_cons (thn (hc.run pins s1 σ H1 (fun v' H' => v' = cw ∧ H' = H1) I1 ⟨rfl, rfl⟩) fun u2 s2 ⟨v2, H2, I2, rv2, ev, eH⟩ => ?_)
  subst ev
  subst eH
  refine Calls.spliced_nil ?_
  cases q2 : gIsi tab S1 d with
  | none => rw [q2] at hp1; exact absurd rfl hp1.1
  | some d' =>
    have e0 : lIsi tab l ρ S = .ok d' S1 := by unfold lIsi; rw [q1, bind_ok, q2]; rfl
    rw [e0]
    unfold gIsi at q2
    cases qt : tgD (vw S1 d) with
    | none => rw [qt] at q2; cases q2
    | some t =>
      rw [qt] at q2
      cases qb : tab t with
      | none => rw [show (some t).bind tab = tab t from rfl, qb] at q2; cases q2
      | some b =>
        rw [show (some t).bind tab = tab t from rfl, qb] at q2
        cases q2
        obtain ⟨k1, k2⟩ := ok.one t b qb
        obtain ⟨P, Z, pp, hx⟩ := kit_d I2 x1 rv w1 qt k2
        have ec := hcv.eq rv2
        subst ec
        exact PySem.W.kia_one Z I2.kIn pp k1 hx fun tk => ⟨_, S1, rfl, .bl b, H2, m1, I2.tok tk, rfl, e1, x1, .bl b⟩
end

/-! ### own special methods -/
/-- somewhere below the running body, with room -/
structure SubA (X : Cx) (n : Nat) (A : Around) : Prop where
  room : Room n A
  fr : A.frames = X.A.frames
theorem SubA.in1 {X : Cx} {n : Nat} {A : Around} (s : SubA X (n + 1) A) : SubA X n A.in1 := ⟨s.room.in1, s.fr⟩
theorem SubA.mono {X : Cx} {n m : Nat} {A : Around} (s : SubA X n A) (h : m ≤ n) : SubA X m A := ⟨s.room.mono h, s.fr⟩
theorem SubA.self {X : Cx} {k : Nat} (h : Room k X.A) : SubA X k X.A := ⟨h, rfl⟩
def F1 (gp : Sto → D → Option D) : F := fun ds S => match ds with
  | [x] => lift1 (gp S x) S
  | _ => .bad
def F2 (gp : G2) : F := fun ds S => match ds with
  | [x, y] => lift1 (gp S x y) S
  | _ => .bad
section
variable {X : Cx} {pins : List (Addr × Obj)} {σ : L2.St} {H : Hp} {s : Shared} {m : List Addr} {S S' : Sto} {k : Nat} {f C : Addr} {fd : FuncData} {ps : List Str} {g : F} {vs : List V} {us : List Value} {ds : List D} {d : D}
/-- == by an own __eq__; the other one may be of the types ts -/
def gOwnEq (C : Addr) (ts : List Tg) (gp : G2) : G2 := fun S x y => match vw S x with
  | .obj C' _ => if C' = C then (match tgD (vw S y) with
    | some t => if t ∈ ts then gp S x y else none
    | none => none) else none
  | _ => none
structure EqM (X : Cx) (C : Addr) (ts : List Tg) (gp : G2) : Prop where
  ex : ∃ (k : Nat) (f : Addr) (fd : FuncData) (ps : List Str), FnL X.prog X.w X.K X.mg X.base k f fd ps (F2 gp) ∧ Room (k + 2) X.A ∧ Binds X.K fd ps [] ∧ ps.length = 2 ∧ PySem.W.findIn X.K (.ref C) "__eq__" = some (some (.ref f)) ∧ PySem.W.isFn X.K (.ref f) = true
  fst : ∀ t ∈ ts, PySem.W.notFirst X.K C (tyG t) = true ∧ ∀ C', t = .obj C' → OwnOk X.K C'
end
/-! ### != by object.__ne__ -/
section
variable {prog : Program} {w : World} {K : PySem.W.Frag} {h₀ : Heap} {L m : List Addr} {A : Around} {E : Value → Shared → Prop} {s : Shared} {x f C : Addr} {ox : Obj} {od : Option Obj}
end
end MP

namespace MP
open PySem PySem.Spec PyProof.Rows L2

section
variable {X : Cx} {C : Addr}
/-- != by an own __eq__ and object.__ne__ -/
def gOwnNe (C : Addr) (ts : List Tg) (gp : G2) : G2 := fun S x y => (gOwnEq C ts gp S x y).bind fun d => match d with
  | .bl b => some (.bl (!b))
  | _ => none
/-- an own special method of one argument -/
structure OneM (X : Cx) (C : Addr) (nm : Str) (gp : Sto → D → Option D) : Prop where
  ex : ∃ (k : Nat) (f : Addr) (fd : FuncData) (ps : List Str), FnL X.prog X.w X.K X.mg X.base k f fd ps (F1 gp) ∧ Room (k + 3) X.A ∧ Binds X.K fd ps [] ∧ ps.length = 1 ∧ PySem.W.findIn X.K (.ref C) nm = some (some (.ref f)) ∧ PySem.W.isFn X.K (.ref f) = true
def gOwn1 (C : Addr) (gp : Sto → D → Option D) (S : Sto) (d : D) : Option D := match vw S d with
  | .obj C' _ => if C' = C then gp S d else none
  | _ => none
def strD : D → Option D
  | .str z => some (.str z)
  | _ => none
def gStrO (C : Addr) (gp : Sto → D → Option D) : GC := fun S ds => match ds with
  | [d] => (gOwn1 C gp S d).bind strD
  | _ => none
def gLenO (C : Addr) (gp : Sto → D → Option D) : GC := fun S ds => match ds with
  | [d] => (gOwn1 C gp S d).bind fun e => match e with
    | .int n => if 0 ≤ n ∧ n < 2 ^ 63 then some (.int n) else none
    | _ => none
  | _ => none
end
end MP

namespace MP
open PySem PySem.Spec PyProof.Rows L2

/-! ### f'..' -/
section
variable {X : Cx} {e : Expr} {es : List Expr} {l : LE} {pos : Pos}
def gFmt (S : Sto) (d : D) : Option D := match vw S d with
  | .str y => if y.length ≤ sizeLine then some (.str y) else none
  | .int i => if i.natAbs.log2 < 1920 then some (.str (toString i)) else none
  | _ => none
def lFmt (l : LE) : LE := fun ρ S => (l ρ S).bind fun d S1 => lift1 (gFmt S1 d) S1
abbrev LJ := Str → Ev → Sto → R Str
structure PJL (X : Cx) (es : List Expr) (l : LJ) : Prop where
  run : ∀ (acc : Str) (pins : List (Addr × Obj)) (s : Shared) (σ : L2.St) (H : Hp) (m : List Addr) (ρ : Ev) (S : Sto) (Rr : Str → Shared → Prop), acc.length ≤ sizeLine → Inv X pins σ H s → SR X.K m H S → ER X.K m H σ ρ → Hope X σ m H (l acc ρ S) →
    (∀ out S1 s1 H1 m1, l acc ρ S = .ok out S1 → out.length ≤ sizeLine → Inv X pins σ H1 s1 → Ext m H m1 H1 → SR X.K m1 H1 S1 → Rr out s1) → Joins (model X.prog X.w) X.A X.xe (evalEach es X.env) acc Rr s
def jNil : LJ := fun acc _ S => .ok acc S
def jCons (l : LE) (t : LJ) : LJ := fun acc ρ S => (l ρ S).bind fun d S1 => match d with
  | .str y => if (acc ++ y).length ≤ sizeLine then t (acc ++ y) ρ S1 else .bad
  | _ => .bad
def lJoin (t : LJ) : LE := fun ρ S => (t Str.empty ρ S).bind fun out S1 => .ok (.str out) S1
end

/-! ### methods of the built-in types -/
/-- the value and the store behind a method -/
abbrev GM := Sto → D → List D → Option (D × Sto)
structure MtL (X : Cx) (id : String) (g : GM) : Prop where
  run : ∀ (pins : List (Addr × Obj)) (s : Shared) (σ : L2.St) (H : Hp) (m : List Addr) (S S' : Sto) (x : V) (dx d : D) (xs : List V) (ds : List D) (v : Value) (us : List Value), Inv X pins σ H s → SR X.K m H S → VR X.K m H x dx → VRs X.K m H xs ds → RelV x v → Vals xs us → g S dx ds = some (d, S') →
    wpAny (model X.prog X.w) X.A (call (.builtin id) (v :: us)) (VP X pins σ m H d S') X.xe s
def isTy (T : String) (S : Sto) (d : D) : Bool := match vw S d with
  | .lst _ => T == "list"
  | .str _ => T == "str"
  | .dct _ _ => match d with
    | .ref _ => T == "dict"
    | _ => false
  | _ => false
theorem ty_of {X : Cx} {m : List Addr} {H : Hp} {S : Sto} {v : V} {d : D} {T : String} (x : SR X.K m H S) (r : VR X.K m H v d) (h : isTy T S d = true) : tyV X.K T v H := by
  unfold isTy at h
  split at h
  · rename_i xs q
    obtain ⟨a, vs, rfl, h1, _⟩ := vw_lst x r q
    exact .inl ⟨beq_iff_eq.mp h, vs, h1⟩
  · rename_i z q
    obtain rfl := vw_str r q
    exact beq_iff_eq.mp h
  · rename_i kvs q
    split at h
    · rename_i i
      cases r with
      | @ref _ a hm =>
        dsimp only [vw] at q
        cases q2 : S[i]? with
        | none => rw [q2] at q; cases q
        | some ob =>
          rw [q2] at q
          cases x.at_ i a ob hm q2 with
          | lst _ _ => cases q
          | ins _ _ => cases q
          | dct h1 _ => exact .inr (.inr (.inl ⟨beq_iff_eq.mp h, .inl ⟨_, h1⟩⟩))
          | dctT h1 _ => exact .inr (.inr (.inl ⟨beq_iff_eq.mp h, .inr ⟨_, h1⟩⟩))
    · cases h
  · cases h
def liftM (o : Option (D × Sto)) : R D := match o with
  | some (d, S) => .ok d S
  | none => .bad
def lBM (T : String) (g : GM) (lo : LE) (t : LA) : LE := fun ρ S => (lo ρ S).bind fun d S0 => if isTy T S0 d = true then (t ρ S0).bind fun ds S1 => liftM (g S1 d ds) else .bad
section
variable {X : Cx} {o e : Expr} {es : List Expr} {lo : LE} {t : LA} {name : Str} {apos cpos : Pos} {T id : String} {g : GM}
theorem pel_bm (pa : PlainAttrs T) (slot : Slot T name id) (hty : typeOf (.builtin id) = pure (.type "method_descriptor")) (hm : MtL X id g) (ho : PEL X o lo) (ha : PAL X (e :: es) t)
    (hbase : attributeBase o name X.env (eval o X.env) = eval o X.env := by rfl)
    (hfew : ((backTo cpos (starEach (e :: es) X.env)).all (fun x => !x.1) && (backToKw cpos (keywordEach [] X.env)).all (fun x => x.1.isSome)
      && decide ((e :: es).length + ([] : List Keyword).length + (if ([] : List Keyword).isEmpty then 0 else 1) < 30)) = true := by rfl)
    (hline : (apos.endLine == cpos.line) = true := by rfl) (hs : starEach (e :: es) X.env = (false, eval e X.env) :: starEach es X.env := by rfl) (hplain : (backTo cpos (starEach es X.env)).any (·.1) = false := by rfl) :
    PEL X (.Call (.Attribute o name apos) (e :: es) [] cpos) (lBM T g lo t) := by
  refine ⟨fun pins s σ H m ρ S I x r hp => ?_⟩
  refine wpAny_Call_method_late hbase hfew hline rfl (run_seq ho I x r hp fun d S0 q0 v u s1 H1 m1 I1 rv e1 x1 w1 r1 hp1 => ?_)
  have hc := hope_if hp1
  rw [if_pos hc] at hp1
  obtain ⟨h1, h2⟩ := tyV_is I1 rv (ty_of x1 w1 hc)
  refine ⟨T, id, pa, slot, hty, h1, h2, ?_⟩
  have hA : wpAny (model X.prog X.w) X.A (spliced (backTo cpos (starEach (e :: es) X.env))) (fun us s' => wpAny (model X.prog X.w) X.A (call (.builtin id) (u :: us)) (VPr X pins σ m H (lBM T g lo t ρ S)) X.xe s') X.xe s1 :=
    run_seqA ha I1 x1 r1 hp1 fun ds S1 q1 vs us s2 H2 m2 I2 rv2 e2 x2 w2 r2 hp2 => by
      cases q2 : g S1 d ds with
      | none => rw [q2] at hp2; exact absurd rfl hp2.1
      | some z =>
        obtain ⟨d', S'⟩ := z
        have e0 : lBM T g lo t ρ S = .ok d' S' := by unfold lBM; rw [q0, bind_ok, if_pos hc, q1, bind_ok, q2]; rfl
        rw [e0]
        exact thn (hm.run pins s2 σ H2 m2 S1 S' v d d' vs ds u us I2 x2 (w1.ext e2 x1.muts) w2 rv rv2 q2) fun _ _ z => (vpr_of z).left (e1.trans e2)
  rw [hs] at hA ⊢
  exact Calls.callWith_builtin (by show (false || (backTo cpos (starEach es X.env)).any (·.1)) = false; rw [hplain] <;> rfl) (Calls.evalArgs_plain hA)
end
section
variable {X : Cx}
def stApp : GM := fun S r ds => match r, ds with
  | .ref j, [y] => match S[j]? with
    | some (.lst xs) => if xs.length < sizeLine then some (.non, S.set j (.lst (xs ++ [y]))) else none
    | _ => none
  | _, _ => none
theorem mtl_append : MtL X "list.append" stApp := ⟨fun pins s σ H m S S' x dx d xs ds v us I q r rs rv rvs e => by
  unfold stApp at e
  split at e
  · rename_i j y
    split at e
    · rename_i l q1
      split at e
      · rename_i hz
        cases e
        obtain ⟨a, rfl, ha, orr⟩ := VR.ref_at q r q1
        obtain ⟨w, rfl, rw'⟩ := rs.one
        cases orr with
        | @lst vs _ hh rr =>
          obtain ⟨z1, z2⟩ := q.write (o' := .lst (vs ++ [w])) (ob' := .lst (l ++ [y])) ha fun e => .lst upd_same ((rr.append (.cons rw' .nil)).ext e q.muts)
          exact thn (mt_append pins s σ H (.ref a) [w] v us (fun v' H' => v' = .non ∧ H' = upd H a (.lst (vs ++ [w]))) I rv rvs ⟨a, vs, w, rfl, rfl, hh, by rw [rr.length]; exact hz, rfl, rfl⟩) fun _ s' ⟨v', H', I', rv', ev, eH⟩ => by
            subst ev; subst eH
            exact ⟨.non, _, m, I', rv', z1, z2, .non⟩
      · cases e
    · cases e
  · cases e⟩
def stPopAt : GM := fun S r ds => match r, ds with
  | .ref j, [.int i] => match S[j]? with
    | some (.lst xs) => if -(2 ^ 63) ≤ i ∧ i < 2 ^ 63 then (seqIndex? i xs.length).bind fun k => (xs[k]?).map fun y => (y, S.set j (.lst (xs.eraseIdx k))) else none
    | _ => none
  | _, _ => none
theorem mtl_popAt : MtL X "list.pop" stPopAt := ⟨fun pins s σ H m S S' x dx d xs ds v us I q r rs rv rvs e => by
  unfold stPopAt at e
  split at e
  · rename_i j i
    split at e
    · rename_i l q1
      split at e
      · rename_i hz
        cases q2 : seqIndex? i l.length with
        | none => rw [q2] at e; cases e
        | some k =>
          rw [q2] at e
          cases q3 : l[k]? with
          | none => dsimp only [Option.bind] at e; rw [q3] at e; cases e
          | some y =>
            dsimp only [Option.bind] at e
            rw [q3] at e
            cases e
            obtain ⟨a, rfl, ha, orr⟩ := VR.ref_at q r q1
            obtain ⟨w, rfl, rw'⟩ := rs.one
            cases rw'
            cases orr with
            | @lst vs _ hh rr =>
              obtain ⟨y', hy, ry⟩ := rr.getr q3
              obtain ⟨z1, z2⟩ := q.write (o' := .lst (vs.eraseIdx k)) (ob' := .lst (l.eraseIdx k)) ha fun e => .lst upd_same ((rr.eraseIdx k).ext e q.muts)
              exact thn (mt_popAt pins s σ H (.ref a) [.int i] v us (fun v' H' => v' = y' ∧ H' = upd H a (.lst (vs.eraseIdx k))) I rv rvs ⟨a, vs, i, k, y', rfl, rfl, hh, hz.1, hz.2, by rw [rr.length]; exact q2, hy, rfl, rfl⟩) fun _ s' ⟨v', H', I', rv', ev, eH⟩ => by
                subst ev; subst eH
                exact ⟨_, _, m, I', rv', z1, z2, ry.ext z1 q.muts⟩
      · cases e
    · cases e
  · cases e⟩
theorem list_append_ty : typeOf (.builtin "list.append") = (pure (.type "method_descriptor") : Sem Value) := PySem.F.type_list_append
theorem list_pop_ty : typeOf (.builtin "list.pop") = (pure (.type "method_descriptor") : Sem Value) := PySem.F.type_list_pop
theorem pel_append {o e : Expr} {lo : LE} {le : LE} {apos cpos : Pos} (ho : PEL X o lo) (he : PEL X e le)
    (hbase : attributeBase o "append" X.env (eval o X.env) = eval o X.env := by rfl)
    (hfew : ((backTo cpos (starEach [e] X.env)).all (fun x => !x.1) && (backToKw cpos (keywordEach [] X.env)).all (fun x => x.1.isSome)
      && decide ([e].length + ([] : List Keyword).length + (if ([] : List Keyword).isEmpty then 0 else 1) < 30)) = true := by rfl)
    (hline : (apos.endLine == cpos.line) = true := by rfl) (hs : starEach [e] X.env = (false, eval e X.env) :: starEach [] X.env := by rfl) :
    PEL X (.Call (.Attribute o "append" apos) [e] [] cpos) (lBM "list" stApp lo (aCons le aNil)) :=
  pel_bm PySem.F.plainAttrs_list PySem.F.slot_list_append list_append_ty mtl_append ho (pal_cons he pal_nil hs) hbase hfew hline hs
theorem pel_popAt {o e : Expr} {lo : LE} {le : LE} {apos cpos : Pos} (ho : PEL X o lo) (he : PEL X e le)
    (hbase : attributeBase o "pop" X.env (eval o X.env) = eval o X.env := by rfl)
    (hfew : ((backTo cpos (starEach [e] X.env)).all (fun x => !x.1) && (backToKw cpos (keywordEach [] X.env)).all (fun x => x.1.isSome)
      && decide ([e].length + ([] : List Keyword).length + (if ([] : List Keyword).isEmpty then 0 else 1) < 30)) = true := by rfl)
    (hline : (apos.endLine == cpos.line) = true := by rfl) (hs : starEach [e] X.env = (false, eval e X.env) :: starEach [] X.env := by rfl) :
    PEL X (.Call (.Attribute o "pop" apos) [e] [] cpos) (lBM "list" stPopAt lo (aCons le aNil)) :=
  pel_bm PySem.F.plainAttrs_list PySem.F.slot_list_pop list_pop_ty mtl_popAt ho (pal_cons he pal_nil hs) hbase hfew hline hs
end
end MP

namespace MP
open PySem PySem.Spec PyProof.Rows L2

/-! ### keywords -/
structure PKL (X : Cx) (kws : List Keyword) (l : LA) : Prop where
  run : ∀ (pos : Pos) (pins : List (Addr × Obj)) (s : Shared) (σ : L2.St) (H : Hp) (m : List Addr) (ρ : Ev) (S : Sto), Inv X pins σ H s → SR X.K m H S → ER X.K m H σ ρ → Hope X σ m H (l ρ S) →
    wpAny (model X.prog X.w) X.A (evalAll ((backToKw pos (keywordEach kws X.env)).map (·.2))) (APr X pins σ m H (l ρ S)) X.xe s
section
variable {X : Cx} {e : Expr} {kws : List Keyword} {l : LE} {t : LA} {nm : Option Str} {kpos : Pos}
end
/-- the values in the parameters' order -/
def pick {α : Type} (p : List Nat) (xs : List α) : List α := p.filterMap fun i => xs[i]?
theorem VRs.pick {K : PySem.W.Frag} {m : List Addr} {H : Hp} {vs : List V} {ds : List D} (r : VRs K m H vs ds) : ∀ p : List Nat, VRs K m H (MP.pick p vs) (MP.pick p ds)
  | [] => .nil
  | i :: p => by
    unfold MP.pick
    cases q : ds[i]? with
    | none =>
      have h : vs[i]? = none := by
        rw [List.getElem?_eq_none_iff] at q ⊢
        rw [r.length]; exact q
      rw [List.filterMap_cons_none q, List.filterMap_cons_none h]
      exact VRs.pick r p
    | some d =>
      obtain ⟨u, hu, ru⟩ := r.getr q
      rw [List.filterMap_cons_some q, List.filterMap_cons_some hu]
      exact .cons ru (VRs.pick r p)
/-- how a call with n values by place and keywords ks binds: p the order, ds0 the values by default -/
structure KwB (K : PySem.W.Frag) (fd : FuncData) (ps : List Str) (n : Nat) (ks : List Str) (p : List Nat) (ds0 : List Value) : Prop where
  to : ∀ (s : Shared) (us ws : List Value), K.In s.heap → us.length = n → ws.length = ks.length → BindsTo s fd ⟨us, ks.zip ws⟩ (ps.zip (pick p (us ++ ws ++ ds0)))
  len : ∀ {α : Type} (xs : List α), xs.length = n + ks.length + ds0.length → (pick p xs).length = ps.length
section
variable {X : Cx} {e : Expr} {pos p : Pos} {es : List Expr} {kws : List Keyword} {t tk : LA} {x : Str} {k n : Nat} {f C : Addr} {fd : FuncData} {ps ks : List Str} {g : F}
/-- what is bound: the values by place, the keywords', those by default -/
def kwF (n m : Nat) (g : F) (pk : List Nat) (dd : List D) (ds es : List D) (S : Sto) : R D := if ds.length = n ∧ es.length = m then g (pick pk (ds ++ es ++ dd)) S else .bad
def lCallK (n m : Nat) (g : F) (pk : List Nat) (dd : List D) (t tk : LA) : LE := fun ρ S => (t ρ S).bind fun ds S1 => (tk ρ S1).bind fun es S2 => kwF n m g pk dd ds es S2
/-- C(k = v, ..): the values in the order of __init__'s parameters behind self; pk: where they stand, self being 0 -/
def kwM (m : Nat) (gn : F) (es : List D) (S : Sto) : R D := if es.length = m then gn es S else .bad
end
end MP

namespace MP
open PySem PySem.Spec PyProof.Rows L2
section
variable {X : Cx}
def gAdd : G2 := fun S x y => ((gAddI S x y).or (gAddS S x y)).or (gCat S x y)
theorem opl_add : OpL X (binaryOp .Add) gAdd := (opl_addI.or opl_addS).or opl_catT
end
end MP

namespace MP
open PySem PySem.Spec PyProof.Rows L2
theorem lg_lt {i : Int} {k : Nat} (h : i.natAbs < 2 ^ k) (hk : 0 < k) : i.natAbs.log2 < k := by
  by_cases z : i.natAbs = 0
  · rw [z]; simpa using hk
  · exact (Nat.log2_lt z).mpr h
theorem abs_lt {i : Int} {n : Nat} (h1 : -(n : Int) < i) (h2 : i < n) : i.natAbs < n := by omega
/-- a number of at most 600 figures -/
def Sm (i : Int) : Prop := -(10 ^ 250) < i ∧ i < 10 ^ 250
theorem Sm.lg {i : Int} (h : Sm i) : i.natAbs.log2 < 900 := by
  refine lg_lt (Nat.lt_of_lt_of_le (abs_lt (n := 10 ^ 250) ?_ ?_) (by decide +kernel)) (by decide)
  · have := h.1; simpa using this
  · have := h.2; simpa using this
theorem Sm.of {i : Int} (h0 : 0 ≤ i) {n : Int} (h1 : i < n) (hn : n ≤ 10 ^ 250) : Sm i := by
  have : (0 : Int) < 10 ^ 250 := by decide +kernel
  exact ⟨by omega, by omega⟩
theorem mul_ii {S : Sto} {i j : Int} (h : Sm i) (h' : Sm j) : gMulI S (.int i) (.int j) = some (.int (i * j)) := by
  have a := h.lg
  have b := h'.lg
  show (if i.natAbs.log2 + j.natAbs.log2 < 1000000 then some (D.int (i * j)) else none) = _
  rw [if_pos (by omega)]
theorem div_ii {S : Sto} {i j : Int} (h0 : 0 < j) (h : Sm j) : gDiv S (.int i) (.int j) = some (.int (i / j)) := by
  have a := h.lg
  show (if 0 < j ∧ j.natAbs.log2 < 9000 then some (D.int (i / j)) else none) = _
  rw [if_pos ⟨h0, by omega⟩]
theorem mod_ii {S : Sto} {i j : Int} (h0 : 0 < j) : gMod S (.int i) (.int j) = some (.int (i % j)) := by
  show (if 0 < j then some (D.int (i % j)) else none) = _
  rw [if_pos h0]
theorem pow_ii {S : Sto} {i j : Int} (h : 0 ≤ j ∧ j ≤ 1000000 ∧ i.natAbs < 2 ^ 64) : gPow S (.int i) (.int j) = some (.int (i ^ j.toNat)) := by
  show (if 0 ≤ j ∧ j ≤ 1000000 ∧ i.natAbs < 2 ^ 64 then some (D.int (i ^ j.toNat)) else none) = _
  rw [if_pos h]
theorem eq_ii {S : Sto} {i j : Int} : gEq S (.int i) (.int j) = some (.bl (decide (i = j))) := rfl
theorem ne_ii {S : Sto} {i j : Int} : gNe S (.int i) (.int j) = some (.bl (!decide (i = j))) := rfl
theorem eq_ss {S : Sto} {i j : Str} : gEq S (.str i) (.str j) = some (.bl (decide (i = j))) := rfl
theorem ne_ss {S : Sto} {i j : Str} : gNe S (.str i) (.str j) = some (.bl (!decide (i = j))) := rfl
/-! ### how the words compute -/
theorem bin_ok {g : G2} {la lb : LE} {ρ : Ev} {S S1 S2 : Sto} {x y d : D} (h1 : la ρ S = .ok x S1) (h2 : lb ρ S1 = .ok y S2) (h3 : g S2 x y = some d) : lBin g la lb ρ S = .ok d S2 := by
  unfold lBin; rw [h1, bind_ok, h2, bind_ok, h3]; rfl
theorem tru_ok {l : LE} {ρ : Ev} {S S1 : Sto} {d : D} {b : Bool} (h1 : l ρ S = .ok d S1) (h2 : truth S1 d = some b) : tTru l ρ S = .ok b S1 := by
  unfold tTru; rw [h1, bind_ok, h2]; rfl
theorem acons_ok {l : LE} {t : LA} {ρ : Ev} {S S1 S2 : Sto} {d : D} {ds : List D} (h1 : l ρ S = .ok d S1) (h2 : t ρ S1 = .ok ds S2) : aCons l t ρ S = .ok (d :: ds) S2 := by
  unfold aCons; rw [h1, bind_ok, h2]; rfl
theorem callb_ok {g : GC} {t : LA} {ρ : Ev} {S S1 : Sto} {d : D} {ds : List D} (h1 : t ρ S = .ok ds S1) (h2 : g S1 ds = some d) : lCallB g t ρ S = .ok d S1 := by
  unfold lCallB; rw [h1, bind_ok, h2]; rfl
theorem call_ok {g : F} {n : Nat} {t : LA} {ρ : Ev} {S S1 : Sto} {ds dd : List D} {r : R D} (h1 : t ρ S = .ok ds S1) (h2 : ds.length + dd.length = n) (h3 : g (ds ++ dd) S1 = r) : lCall n g dd t ρ S = r := by
  unfold lCall; rw [h1, bind_ok, if_pos h2, h3]
theorem tup_ok {t : LA} {ρ : Ev} {S S1 : Sto} {ds : List D} (h1 : t ρ S = .ok ds S1) (h : ds.length ≤ 1000) : lTup t ρ S = .ok (.tup ds) S1 := by
  unfold lTup; rw [h1, bind_ok, if_pos (Nat.le_trans h (by decide))]
theorem lst_ok {t : LA} {ρ : Ev} {S S1 : Sto} {ds : List D} (h1 : t ρ S = .ok ds S1) (h : ds.length ≤ 1000) : lLst t ρ S = .ok (.lst ds) S1 := by
  unfold lLst; rw [h1, bind_ok, if_pos (Nat.le_trans h (by decide))]
theorem lstN_ok {t : LA} {ρ : Ev} {S S1 : Sto} {ds : List D} (h1 : t ρ S = .ok ds S1) (h : ds.length ≤ 1000) : lLstN t ρ S = .ok (.ref S1.length) (S1 ++ [.lst ds]) := by
  unfold lLstN; rw [h1, bind_ok, if_pos (Nat.le_trans h (by decide))]
theorem fld_ok {C : Addr} {f : Str} {l : LE} {ρ : Ev} {S S1 : Sto} {d e : D} (h1 : l ρ S = .ok d S1) (h2 : gFld C f S1 d = some e) : lFld C f l ρ S = .ok e S1 := by
  unfold lFld; rw [h1, bind_ok, h2]; rfl
theorem set_ok {i : Nat} {l : LE} {ρ : Ev} {S S1 : Sto} {d : D} (h : l ρ S = .ok d S1) : lSet i l ρ S = .ok (.nx (ρ.set i (some d))) S1 := by
  unfold lSet; rw [h]; rfl
theorem ret_ok {l : LE} {ρ : Ev} {S S1 : Sto} {d : D} (h : l ρ S = .ok d S1) : lRet l ρ S = .ok (.rt d) S1 := by
  unfold lRet; rw [h]; rfl
theorem expr_ok {l : LE} {ρ : Ev} {S S1 : Sto} {d : D} (h : l ρ S = .ok d S1) : lExpr l ρ S = .ok (.nx ρ) S1 := by
  unfold lExpr; rw [h]; rfl
theorem seq_nx {l1 l2 : LS} {ρ ρ' : Ev} {S S1 : Sto} {r : R Fl} (h : l1 ρ S = .ok (.nx ρ') S1) (h2 : l2 ρ' S1 = r) : lSeq l1 l2 ρ S = r := by
  unfold lSeq; rw [h, bind_ok]; exact h2
theorem seq_rt {l1 l2 : LS} {ρ : Ev} {S S1 : Sto} {d : D} (h : l1 ρ S = .ok (.rt d) S1) : lSeq l1 l2 ρ S = .ok (.rt d) S1 := by
  unfold lSeq; rw [h, bind_ok]; rfl
theorem if_tt {tc : LT} {l1 l2 : LS} {ρ : Ev} {S S1 : Sto} {r : R Fl} (h : tc ρ S = .ok true S1) (h2 : l1 ρ S1 = r) : lIfS tc l1 l2 ρ S = r := by
  unfold lIfS; rw [h]; exact h2
theorem if_ff {tc : LT} {l1 l2 : LS} {ρ : Ev} {S S1 : Sto} {r : R Fl} (h : tc ρ S = .ok false S1) (h2 : l2 ρ S1 = r) : lIfS tc l1 l2 ρ S = r := by
  unfold lIfS; rw [h]; exact h2
theorem par_ok {i j : Nat} {t : LA} {ρ : Ev} {S S1 : Sto} {a b : D} (h : t ρ S = .ok [a, b] S1) : lPar i j t ρ S = .ok (.nx ((ρ.set i (some a)).set j (some b))) S1 := by
  unfold lPar; rw [h]; rfl
theorem stS_ok {g : Sto → D → D → D → Option Sto} {lo li le : LE} {ρ : Ev} {S S1 S2 S3 S4 : Sto} {d r k : D} (h1 : le ρ S = .ok d S1) (h2 : lo ρ S1 = .ok r S2) (h3 : li ρ S2 = .ok k S3) (h4 : g S3 r k d = some S4) : lStS g lo li le ρ S = .ok (.nx ρ) S4 := by
  unfold lStS; rw [h1]; show liftX ρ (lo ρ S1) _ = _; rw [h2]; show liftX ρ (li ρ S2) _ = _; rw [h3]; show liftS _ ρ = _; rw [h4]; rfl
theorem stF_ok {C : Addr} {f : Str} {lo le : LE} {ρ : Ev} {S S1 S2 S3 : Sto} {d r : D} (h1 : le ρ S = .ok d S1) (h2 : lo ρ S1 = .ok r S2) (h3 : stFld C f S2 r d = some S3) : lStF C f lo le ρ S = .ok (.nx ρ) S3 := by
  unfold lStF; rw [h1]; show liftX ρ (lo ρ S1) _ = _; rw [h2]; show liftS _ ρ = _; rw [h3]; rfl
theorem bm_ok {T : String} {g : GM} {lo : LE} {t : LA} {ρ : Ev} {S S1 S2 S3 : Sto} {d e : D} {ds : List D} (h1 : lo ρ S = .ok d S1) (h2 : isTy T S1 d = true) (h3 : t ρ S1 = .ok ds S2) (h4 : g S2 d ds = some (e, S3)) : lBM T g lo t ρ S = .ok e S3 := by
  unfold lBM; rw [h1, bind_ok, if_pos h2, h3, bind_ok, h4]; rfl
theorem meth_ok {C : Addr} {mn : Str} {n : Nat} {g : F} {lo : LE} {t : LA} {ρ : Ev} {S S1 S2 : Sto} {d : D} {ds dd : List D} {r : R D} (h1 : lo ρ S = .ok d S1) (h2 : recv C mn S1 d = true) (h3 : t ρ S1 = .ok ds S2) (h4 : (ds.length + dd.length) + 1 = n) (h5 : g (d :: (ds ++ dd)) S2 = r) : lMeth C mn n g dd lo t ρ S = r := by
  unfold lMeth; rw [h1, bind_ok, if_pos h2, h3, bind_ok, if_pos h4, h5]
theorem body_rt {n : Nat} {lb : LS} {ds : List D} {S S' : Sto} {d : D} (h : lb (ds.map some ++ List.replicate (n - ds.length) none) S = .ok (.rt d) S') : bodyF n lb ds S = .ok d S' := by
  unfold bodyF; rw [h]; rfl
theorem body_nx {n : Nat} {lb : LS} {ds : List D} {ρ : Ev} {S S' : Sto} (h : lb (ds.map some ++ List.replicate (n - ds.length) none) S = .ok (.nx ρ) S') : bodyF n lb ds S = .ok .non S' := by
  unfold bodyF; rw [h]; rfl
theorem and_tt {ta tb : LT} {ρ : Ev} {S S1 : Sto} {r : R Bool} (h : ta ρ S = .ok true S1) (h2 : tb ρ S1 = r) : tAnd ta tb ρ S = r := by
  unfold tAnd; rw [h, bind_ok, if_pos rfl]; exact h2
theorem and_ff {ta tb : LT} {ρ : Ev} {S S1 : Sto} (h : ta ρ S = .ok false S1) : tAnd ta tb ρ S = .ok false S1 := by
  unfold tAnd; rw [h, bind_ok]; rfl
theorem or_tt {ta tb : LT} {ρ : Ev} {S S1 : Sto} (h : ta ρ S = .ok true S1) : tOr ta tb ρ S = .ok true S1 := by
  unfold tOr; rw [h, bind_ok]; rfl
theorem or_ff {ta tb : LT} {ρ : Ev} {S S1 : Sto} {r : R Bool} (h : ta ρ S = .ok false S1) (h2 : tb ρ S1 = r) : tOr ta tb ρ S = r := by
  unfold tOr; rw [h, bind_ok]; exact h2
theorem not_ok {ta : LT} {ρ : Ev} {S S1 : Sto} {b : Bool} (h : ta ρ S = .ok b S1) : tNot ta ρ S = .ok (!b) S1 := by
  unfold tNot; rw [h, bind_ok]
theorem while_go {ρ0 ρ : Ev} {tc : LT} {lb : LS} {n : Nat} {S S1 S2 : Sto} {ρ' : Ev} {r : R Fl} (h : tc ρ S = .ok true S1) (h2 : lb ρ S1 = .ok (.nx ρ') S2) (h3 : whileG ρ0 tc lb n (wk ρ0 ρ') S2 = r) : whileG ρ0 tc lb (n + 1) ρ S = r := by
  unfold whileG; rw [h]; show (lb ρ S1).bind _ = _; rw [h2, bind_ok]; exact h3
theorem while_end {ρ0 ρ : Ev} {tc : LT} {lb : LS} {n : Nat} {S S1 : Sto} (h : tc ρ S = .ok false S1) : whileG ρ0 tc lb (n + 1) ρ S = .ok (.nx ρ) S1 := by
  unfold whileG; rw [h]; rfl
theorem for_go {ρ0 ρ ρ1 ρ' : Ev} {chk : Sto → Prop} {g : GT} {lb : LS} {d : D} {ds : List D} {S S1 : Sto} {r : R Fl} (hc : chk S) (hg : g d ρ = some ρ1) (h : lb ρ1 S = .ok (.nx ρ') S1) (h2 : forG ρ0 chk g lb ds (wk ρ0 ρ') S1 = r) : forG ρ0 chk g lb (d :: ds) ρ S = r := by
  unfold forG; rw [if_pos hc, hg]; show (lb ρ1 S).bind _ = _; rw [h, bind_ok]; exact h2
theorem for_end {ρ0 ρ : Ev} {chk : Sto → Prop} {g : GT} {lb : LS} {S : Sto} (hc : chk S) : forG ρ0 chk g lb [] ρ S = .ok (.nx ρ) S := by
  unfold forG; rw [if_pos hc]
theorem comp_go {ρ0 ρ1 : Ev} {chk : Sto → Prop} {g : GT} {te : LE} {d y : D} {ds ys : List D} {S S1 S2 : Sto} (hc : chk S) (hg : g d ρ0 = some ρ1) (h : te ρ1 S = .ok y S1) (h2 : compG chk g tYesL te ρ0 ds S1 = .ok ys S2) : compG chk g tYesL te ρ0 (d :: ds) S = .ok (y :: ys) S2 := by
  unfold compG; rw [if_pos hc, hg]; show (noex (te ρ1 S)).bind _ = _; rw [h]; show (compG chk g tYesL te ρ0 ds S1).bind _ = _; rw [h2]; rfl
theorem comp_end {ρ0 : Ev} {chk : Sto → Prop} {g : GT} {tt : LT} {te : LE} {S : Sto} (hc : chk S) : compG chk g tt te ρ0 [] S = .ok [] S := by
  unfold compG; rw [if_pos hc]
end MP

namespace MP
open PySem PySem.Spec PyProof.Rows L2
/-! ### more of how the words compute -/
theorem tru_b {l : LE} {ρ : Ev} {S S1 : Sto} {b b' : Bool} (h : l ρ S = .ok (.bl b) S1) (e : b = b') : tTru l ρ S = .ok b' S1 := e ▸ tru_ok h rfl
theorem ix_ref {S : Sto} {j : Nat} {xs : List D} {k : Int} {d : D} (h : S[j]? = some (.lst xs)) (h2 : atI xs k = some d) : gIx S (.ref j) (.int k) = some d := by
  unfold gIx
  have e : vw S (.ref j) = .lst xs := by unfold vw; dsimp only; rw [h]
  rw [e]; exact h2
theorem sub_ok {S : Sto} {j n : Nat} {xs : List D} {k : Int} {d : D} (h : S[j]? = some (.lst xs)) (h2 : ixN xs.length k = some n) : stSeq S (.ref j) (.int k) d = some (S.set j (.lst (xs.set n d))) := by
  unfold stSeq; dsimp only; rw [h]; dsimp only; rw [h2]; rfl
theorem app_ok {S : Sto} {j : Nat} {xs : List D} {d : D} (h : S[j]? = some (.lst xs)) (h2 : xs.length < 1000) : stApp S (.ref j) [d] = some (.non, S.set j (.lst (xs ++ [d]))) := by
  unfold stApp; dsimp only; rw [h]; dsimp only; rw [if_pos (Nat.lt_of_lt_of_le h2 (by decide))]
theorem ty_lst {S : Sto} {j : Nat} {xs : List D} (h : S[j]? = some (.lst xs)) : isTy "list" S (.ref j) = true := by
  unfold isTy
  have e : vw S (.ref j) = .lst xs := by unfold vw; dsimp only; rw [h]
  rw [e]; rfl
theorem last_at {S : Sto} {o : O} : (S ++ [o])[S.length]? = some o := by simp
theorem last_set {S : Sto} {o o' : O} : (S ++ [o]).set S.length o' = S ++ [o'] := by simp
theorem for_ok {li : LI} {g : GT} {lb : LS} {ρ : Ev} {S S1 : Sto} {it : Its'} {r : R Fl} (h : li ρ S = .ok it S1) (h2 : forG ρ it.chk g lb it.items ρ S1 = r) : lFor li g lb ρ S = r := by
  unfold lFor; rw [h]; exact h2
end MP

namespace MP
open PySem PySem.Spec PyProof.Rows L2
/-! ### the law's own draws: the pot -/
def Pot (n : Int) (S : Sto) (d : D) : Prop := ∃ (j i : Nat) (own : List Int) (seed cnt : Int), d = .ref j ∧ i ≠ j ∧ S[j]? = some (.lst [.ref i, .int seed, .int cnt]) ∧ S[i]? = some (.lst (own.map D.int)) ∧ own.length ≤ 63 ∧ (∀ z ∈ own, 0 ≤ z ∧ z < 10 ^ 120) ∧ 0 ≤ seed ∧ seed < 10 ^ 30 ∧ 0 ≤ cnt ∧ cnt ≤ n
theorem Pot.mono {n n' : Int} {S : Sto} {d : D} (h : Pot n S d) (hn : n ≤ n') : Pot n' S d := by
  obtain ⟨j, i, own, seed, cnt, h1, h2, h3, h4, h5, h6, h7, h8, h9, h10⟩ := h
  exact ⟨j, i, own, seed, cnt, h1, h2, h3, h4, h5, h6, h7, h8, h9, by omega⟩
def SBegin (g : F) : Prop := ∀ (S : Sto) (ns : List Int), ns.length ≤ 63 → ∃ d S', g [.lst (ns.map D.int)] S = .ok d S' ∧ Pot 0 S' d
def STake (g : F) : Prop := ∀ (n : Int) (S : Sto) (d : D) (wd : Int), Pot n S d → n < 10 ^ 30 → 0 < wd → wd < 10 ^ 200 → ∃ v S', g [d, .int wd] S = .ok (.int v) S' ∧ 0 ≤ v ∧ v < wd ∧ Pot (n + 1) S' d
def SOf (g : F) : Prop := ∀ (n : Int) (S : Sto) (d : D) (xs : List D), Pot n S d → n < 10 ^ 30 → xs ≠ [] → xs.length ≤ 1000 → ∃ y S', y ∈ xs ∧ g [d, .lst xs] S = .ok y S' ∧ Pot (n + 1) S' d
/-- the draws begin -/
def begStep : LS := (lSeq
              (lSet 1
                (lBin gMod
                  (lBin gAdd
                    (lBin gAdd (lBin gMulI (lVar 1) (lC (D.int 1000003)))
                      (lBin gMod (lVar 4) (lBin gPow (lC (D.int 10)) (lC (D.int 30)))))
                    (lBin gMulI (lC (D.int 31)) (lVar 3)))
                  (lC (D.int 2305843009213693951))))
              (lIfS (tTru (lBin gGeI (lCallB gAbs (aCons (lVar 4) aNil)) (lBin gPow (lC (D.int 10)) (lC (D.int 18)))))
                (lExpr
                  (lBM "list" stApp (lVar 2)
                    (aCons
                      (lBin gMod (lCallB gAbs (aCons (lVar 4) aNil))
                        (lBin gMulI (lBin gPow (lC (D.int 10)) (lC (D.int 60)))
                          (lBin gPow (lC (D.int 10)) (lC (D.int 60)))))
                      aNil)))
                lNext))
def begG : GT := gtTup 2 (gtCons (gtName 3) (gtCons (gtName 4) gtNil))
/-! ### a draw -/
def tkT : LT := (MP.tAnd (tTru (lBin gNe (lBin gIx (lVar 0) (lC (D.int 0))) (lLst aNil)))
            (tTru (lBin gEq (lBin gIx (lBin gIx (lVar 0) (lC (D.int 0))) (lC (D.int 0))) (lC (D.int 0)))))
def tkB : LS := (lExpr (lBM "list" stPopAt (lBin gIx (lVar 0) (lC (D.int 0))) (aCons (lC (D.int 0)) aNil)))
theorem ix0 {n : Nat} : ixN (n + 1) 0 = some 0 := by unfold ixN; rw [if_pos (by decide), if_pos (by omega)]; rfl
theorem at0 {x : D} {xs : List D} : atI (x :: xs) 0 = some x := by unfold atI; rw [List.length_cons, ix0]; rfl
end MP

namespace MP
open PySem PySem.Spec PyProof.Rows L2
theorem for_const {chk : Sto → Prop} {g : GT} {lb : LS} {ρ0 : Ev} {S : Sto} (hc : chk S) : ∀ items : List D, (∀ d ∈ items, ∃ ρ1 ρ', g d ρ0 = some ρ1 ∧ lb ρ1 S = .ok (.nx ρ') S ∧ wk ρ0 ρ' = ρ0) → forG ρ0 chk g lb items ρ0 S = .ok (.nx ρ0) S
  | [], _ => for_end hc
  | d :: items, h => by
    obtain ⟨ρ1, ρ', h1, h2, h3⟩ := h d (by simp)
    refine for_go hc h1 h2 ?_
    rw [h3]
    exact for_const hc items fun d hd => h d (by simp [hd])
theorem iter_ok {l : LE} {ρ : Ev} {S S1 : Sto} {d : D} {it : Its'} (h : l ρ S = .ok d S1) (h2 : iterOf S1 d = some it) : lIter l ρ S = .ok it S1 := by
  unfold lIter; rw [h, bind_ok, h2]; rfl
end MP

namespace MP
open PySem PySem.Spec PyProof.Rows L2

/-! ### dicts -/
def keyOf : D → Option Key
  | .int i => some (.inl i)
  | .str s => some (.inr s)
  | _ => none
def keysOf : List D → Option (List Key)
  | [] => some []
  | x :: r => (keyOf x).bind fun k => (keysOf r).map fun ks => k :: ks
/-- a key of a dict; t: its keys are tuples -/
def kOf (t : Bool) (d : D) : Option (List Key) := match t with
  | false => (keyOf d).map fun k => [k]
  | true => match d with
    | .tup xs => keysOf xs
    | _ => none
def kD (t : Bool) (ks : List Key) : D := match t with
  | false => match ks with
    | k :: _ => keyD k
    | [] => .non
  | true => .tup (ks.map keyD)
def lookD (t : Bool) : List (D × D) → List Key → Option D
  | [], _ => none
  | (x, d) :: r, ks => if kOf t x = some ks then some d else lookD t r ks
def putDD (t : Bool) (kvs : List (D × D)) (ks : List Key) (d : D) : List (D × D) := if (lookD t kvs ks).isSome = true then kvs.map (fun q => if kOf t q.1 = some ks then (q.1, d) else q) else kvs ++ [(kD t ks, d)]
theorem keyOf_keyD (k : Key) : keyOf (keyD k) = some k := by cases k <;> rfl
theorem keysOf_map : ∀ ks : List Key, keysOf (ks.map keyD) = some ks
  | [] => rfl
  | k :: ks => by simp [keysOf, keyOf_keyD, keysOf_map ks]
theorem keyOf_inv {d : D} {k : Key} (h : keyOf d = some k) : d = keyD k := by
  cases d <;> simp only [keyOf] at h <;> cases h <;> rfl
theorem keysOf_inv : ∀ {ds : List D} {ks : List Key}, keysOf ds = some ks → ds = ks.map keyD
  | [], ks, h => by simp only [keysOf] at h; cases h; rfl
  | x :: r, ks, h => by
    simp only [keysOf] at h
    cases q : keyOf x with
    | none => rw [q] at h; cases h
    | some k =>
      rw [q] at h
      cases q2 : keysOf r with
      | none => rw [q2] at h; cases h
      | some ks' =>
        rw [q2] at h
        cases h
        rw [keyOf_inv q, keysOf_inv q2]
        rfl
section
variable {K : PySem.W.Frag} {m : List Addr} {H : Hp}
theorem VR.key {v : V} {d : D} {k : Key} (r : VR K m H v d) (h : keyOf d = some k) : v = kV k := by
  have e := keyOf_inv h
  subst e
  cases k with
  | inl i => cases r; rfl
  | inr s => cases r; rfl
theorem VRs.keys : ∀ {vs : List V} {ks : List Key}, VRs K m H vs (ks.map keyD) → vs = ks.map kV
  | _, [], .nil => rfl
  | _, k :: ks, .cons h r => by rw [h.key (keyOf_keyD k), r.keys]; rfl
theorem kf1 {k k' : Key} : kOf false (keyD k') = some [k] ↔ k' = k := by
  show (keyOf (keyD k')).map (fun k => [k]) = some [k] ↔ _
  rw [keyOf_keyD]
  simp
theorem kf2 {k k' : List Key} : kOf true (.tup (k'.map keyD)) = some k ↔ k' = k := by
  show keysOf (k'.map keyD) = some k ↔ _
  rw [keysOf_map]
  simp
theorem VDk.look {vs : List (Key × V)} {ds : List (D × D)} (r : VDk K m H vs ds) (k : Key) : (∀ d, lookD false ds [k] = some d → ∃ v, valV vs k = some v ∧ VR K m H v d) ∧ (lookD false ds [k] = none → valV vs k = none) := by
  induction vs generalizing ds with
  | nil => cases r; exact ⟨fun d h => by simp [lookD] at h, fun _ => rfl⟩
  | cons p vs ih =>
    cases r with
    | @cons k' v d vs ds h r =>
      simp only [lookD]
      by_cases e : k' = k
      · rw [if_pos (kf1.mpr e), valV_pos (p := (k', v)) e]
        exact ⟨fun d' z => by cases z; exact ⟨v, rfl, h⟩, fun z => by cases z⟩
      · rw [if_neg (fun z => e (kf1.mp z)), valV_neg (p := (k', v)) e]
        exact ih r
theorem VDt.look {vs : List (List Key × V)} {ds : List (D × D)} (r : VDt K m H vs ds) (k : List Key) : (∀ d, lookD true ds k = some d → ∃ v, valV vs k = some v ∧ VR K m H v d) ∧ (lookD true ds k = none → valV vs k = none) := by
  induction vs generalizing ds with
  | nil => cases r; exact ⟨fun d h => by simp [lookD] at h, fun _ => rfl⟩
  | cons p vs ih =>
    cases r with
    | @cons k' v d vs ds h r =>
      simp only [lookD]
      by_cases e : k' = k
      · rw [if_pos (kf2.mpr e), valV_pos (p := (k', v)) e]
        exact ⟨fun d' z => by cases z; exact ⟨v, rfl, h⟩, fun z => by cases z⟩
      · rw [if_neg (fun z => e (kf2.mp z)), valV_neg (p := (k', v)) e]
        exact ih r
theorem VDk.some_iff {vs : List (Key × V)} {ds : List (D × D)} (r : VDk K m H vs ds) (k : Key) : (lookD false ds [k]).isSome = (valV vs k).isSome := by
  obtain ⟨h1, h2⟩ := r.look k
  cases q : lookD false ds [k] with
  | none => rw [h2 q]; rfl
  | some d => obtain ⟨v, e, _⟩ := h1 d q; rw [e]; rfl
theorem VDt.some_iff {vs : List (List Key × V)} {ds : List (D × D)} (r : VDt K m H vs ds) (k : List Key) : (lookD true ds k).isSome = (valV vs k).isSome := by
  obtain ⟨h1, h2⟩ := r.look k
  cases q : lookD true ds k with
  | none => rw [h2 q]; rfl
  | some d => obtain ⟨v, e, _⟩ := h1 d q; rw [e]; rfl
theorem VDk.mapP {v : V} {d : D} (k : Key) (h : VR K m H v d) : ∀ {vs : List (Key × V)} {ds : List (D × D)}, VDk K m H vs ds → VDk K m H (vs.map fun kv => if kv.1 = k then (kv.1, v) else kv) (ds.map fun q => if kOf false q.1 = some [k] then (q.1, d) else q)
  | _, _, .nil => .nil
  | _, _, @VDk.cons _ _ _ k' w e vs ds h' r => by
    simp only [List.map_cons]
    by_cases z : k' = k
    · rw [if_pos z, if_pos (kf1.mpr z)]; exact .cons h (r.mapP k h)
    · rw [if_neg z, if_neg (fun y => z (kf1.mp y))]; exact .cons h' (r.mapP k h)
theorem VDt.mapP {v : V} {d : D} (k : List Key) (h : VR K m H v d) : ∀ {vs : List (List Key × V)} {ds : List (D × D)}, VDt K m H vs ds → VDt K m H (vs.map fun kv => if kv.1 = k then (kv.1, v) else kv) (ds.map fun q => if kOf true q.1 = some k then (q.1, d) else q)
  | _, _, .nil => .nil
  | _, _, @VDt.cons _ _ _ k' w e vs ds h' r => by
    simp only [List.map_cons]
    by_cases z : k' = k
    · rw [if_pos z, if_pos (kf2.mpr z)]; exact .cons h (r.mapP k h)
    · rw [if_neg z, if_neg (fun y => z (kf2.mp y))]; exact .cons h' (r.mapP k h)
theorem VDk.snoc {v : V} {d : D} (k : Key) (h : VR K m H v d) : ∀ {vs : List (Key × V)} {ds : List (D × D)}, VDk K m H vs ds → VDk K m H (vs ++ [(k, v)]) (ds ++ [(keyD k, d)])
  | _, _, .nil => .cons h .nil
  | _, _, .cons h' r => .cons h' (r.snoc k h)
theorem VDt.snoc {v : V} {d : D} (k : List Key) (h : VR K m H v d) : ∀ {vs : List (List Key × V)} {ds : List (D × D)}, VDt K m H vs ds → VDt K m H (vs ++ [(k, v)]) (ds ++ [(.tup (k.map keyD), d)])
  | _, _, .nil => .cons h .nil
  | _, _, .cons h' r => .cons h' (r.snoc k h)
theorem VDk.put {v : V} {d : D} (k : Key) (h : VR K m H v d) {vs : List (Key × V)} {ds : List (D × D)} (r : VDk K m H vs ds) : VDk K m H (putK vs k v) (putDD false ds [k] d) := by
  unfold putK putDD
  rw [r.some_iff k, valV_any]
  by_cases z : (valV vs k).isSome = true
  · rw [if_pos z, if_pos z]; exact r.mapP k h
  · rw [if_neg z, if_neg z]; exact r.snoc k h
theorem VDt.put {v : V} {d : D} (k : List Key) (h : VR K m H v d) {vs : List (List Key × V)} {ds : List (D × D)} (r : VDt K m H vs ds) : VDt K m H (putK vs k v) (putDD true ds k d) := by
  unfold putK putDD
  rw [r.some_iff k, valV_any]
  by_cases z : (valV vs k).isSome = true
  · rw [if_pos z, if_pos z]; exact r.mapP k h
  · rw [if_neg z, if_neg z]; exact r.snoc k h
theorem VDk.length {vs : List (Key × V)} {ds : List (D × D)} : VDk K m H vs ds → vs.length = ds.length
  | .nil => rfl
  | .cons _ r => by simp [r.length]
theorem VDt.length {vs : List (List Key × V)} {ds : List (D × D)} : VDt K m H vs ds → vs.length = ds.length
  | .nil => rfl
  | .cons _ r => by simp [r.length]
variable {S : Sto}
/-- a dict, of the store or not -/
theorem vw_dct (x : SR K m H S) {v : V} {d : D} {t : Bool} {kvs : List (D × D)} (r : VR K m H v d) (e : vw S d = .dct t kvs) : ∃ a, v = .ref a ∧ ((t = false ∧ ∃ vs, H a = some (.dK vs) ∧ VDk K m H vs kvs) ∨ (t = true ∧ ∃ vs, H a = some (.dT vs) ∧ VDt K m H vs kvs)) := by
  cases r with
  | @ref i a h =>
    dsimp only [vw] at e
    cases q : S[i]? with
    | none => rw [q] at e; cases e
    | some ob =>
      rw [q] at e
      cases x.at_ i a ob h q with
      | lst _ _ => cases e
      | ins _ _ => cases e
      | dct h r => cases e; exact ⟨a, rfl, .inl ⟨rfl, _, h, r⟩⟩
      | dctT h r => cases e; exact ⟨a, rfl, .inr ⟨rfl, _, h, r⟩⟩
  | dct n h r => cases e; exact ⟨_, rfl, .inl ⟨rfl, _, h, r⟩⟩
  | dctT n h r => cases e; exact ⟨_, rfl, .inr ⟨rfl, _, h, r⟩⟩
  | _ => cases e
theorem dget_of (x : SR K m H S) {v y : V} {d dy : D} {t : Bool} {kvs : List (D × D)} {ks : List Key} (r : VR K m H v d) (e : vw S d = .dct t kvs) (ry : VR K m H y dy) (hk : kOf t dy = some ks) :
    ∃ a o, v = .ref a ∧ DGet H a y o ∧ (∀ d', lookD t kvs ks = some d' → ∃ v', o = some v' ∧ VR K m H v' d') ∧ (lookD t kvs ks = none → o = none) := by
  obtain ⟨a, rfl, h⟩ := vw_dct x r e
  rcases h with ⟨rfl, vs, h, rr⟩ | ⟨rfl, vs, h, rr⟩
  · simp only [kOf] at hk
    cases q : keyOf dy with
    | none => rw [q] at hk; cases hk
    | some k =>
      rw [q] at hk
      cases hk
      obtain rfl := ry.key q
      obtain ⟨h1, h2⟩ := rr.look k
      exact ⟨a, _, rfl, .k h, h1, h2⟩
  · simp only [kOf] at hk
    cases ry with
    | @tup b ws ds hb rs =>
      dsimp only at hk
      have e2 := keysOf_inv hk
      subst e2
      obtain rfl := rs.keys
      obtain ⟨h1, h2⟩ := rr.look ks
      exact ⟨a, _, rfl, .t h hb, h1, h2⟩
    | _ => cases hk
end
section
variable {X : Cx}
def gDix : G2 := fun S x y => match vw S x with
  | .dct t kvs => (kOf t y).bind fun ks => lookD t kvs ks
  | _ => none
theorem ixl_dct (hu : X.A.units + 64 < cLine) : IxL X gDix := ⟨fun value slice pins s σ H m S x y dx dy d v u I q rx ry ex ey e hs => by
  unfold gDix at e
  split at e
  · rename_i t kvs qv
    cases hk : kOf t dy with
    | none => rw [hk] at e; cases e
    | some ks =>
      rw [hk] at e
      obtain ⟨a, o, rfl, g, h1, h2⟩ := dget_of q rx qv ry hk
      obtain ⟨v', rfl, w⟩ := h1 d e
      obtain rfl : v = Value.ref a := ex
      exact tail_any (dict_typeIs I g) PySem.F.slot_dict_getitem.lookup (d_getItem (by omega) I g ey fun w' s' I' rw' => ⟨v', H, m, I', rw', Ext.refl, q, w⟩) (hs _ _)
  · cases e⟩
def gDin : G2 := fun S y x => match vw S x with
  | .dct t kvs => (kOf t y).map fun ks => .bl (lookD t kvs ks).isSome
  | _ => none
def gDnotin : G2 := fun S y x => match vw S x with
  | .dct t kvs => (kOf t y).map fun ks => .bl (!(lookD t kvs ks).isSome)
  | _ => none
theorem opl_din (hu : X.A.units + 64 < cLine) : OpL X (compareOp .In) gDin := ⟨fun pins s σ H m S y x dy dx d u v I q ry rx ey ex e => by
  unfold gDin at e
  split at e
  · rename_i t kvs qv
    cases hk : kOf t dy with
    | none => rw [hk] at e; cases e
    | some ks =>
      rw [hk] at e
      cases e
      obtain ⟨a, o, rfl, g, h1, h2⟩ := dget_of q rx qv ry hk
      obtain rfl : v = Value.ref a := ex
      have e2 : o.isSome = (lookD t kvs ks).isSome := by
        cases z : lookD t kvs ks with
        | none => rw [h2 z]; rfl
        | some d' => obtain ⟨v', rfl, _⟩ := h1 d' z; rfl
      exact d_in (by omega) I g ey fun s' I' => ⟨.bl o.isSome, H, m, I', rfl, Ext.refl, q, by rw [e2]; exact .bl _⟩
  · cases e⟩
theorem opl_dnotin (hu : X.A.units + 64 < cLine) : OpL X (compareOp .NotIn) gDnotin := ⟨fun pins s σ H m S y x dy dx d u v I q ry rx ey ex e => by
  unfold gDnotin at e
  split at e
  · rename_i t kvs qv
    cases hk : kOf t dy with
    | none => rw [hk] at e; cases e
    | some ks =>
      rw [hk] at e
      cases e
      obtain ⟨a, o, rfl, g, h1, h2⟩ := dget_of q rx qv ry hk
      obtain rfl : v = Value.ref a := ex
      have e2 : o.isSome = (lookD t kvs ks).isSome := by
        cases z : lookD t kvs ks with
        | none => rw [h2 z]; rfl
        | some d' => obtain ⟨v', rfl, _⟩ := h1 d' z; rfl
      exact d_notIn (by omega) I g ey fun s' I' => ⟨.bl (!o.isSome), H, m, I', rfl, Ext.refl, q, by rw [e2]; exact .bl _⟩
  · cases e⟩
def stDct (S : Sto) (r i d : D) : Option Sto := match r with
  | .ref j => match S[j]? with
    | some (.dct t kvs) => if kvs.length < sizeLine then (kOf t i).map fun ks => S.set j (.dct t (putDD t kvs ks d)) else none
    | _ => none
  | _ => none
theorem psetl_dct (hu : X.A.units + 64 < cLine) : PSetL X stDct := ⟨fun pins s σ H m S S' o i v d1 d2 d3 ov iv u I x r1 r2 r3 e1 e2 e3 q => by
  unfold stDct at q
  split at q
  · rename_i j
    split at q
    · rename_i t kvs q1
      split at q
      · rename_i hz
        cases hk : kOf t d2 with
        | none => rw [hk] at q; cases q
        | some ks =>
          rw [hk] at q
          cases q
          obtain ⟨a, rfl, ha, orr⟩ := VR.ref_at x r1 q1
          obtain rfl : ov = Value.ref a := e1
          cases orr with
          | @dct vs _ hh rr =>
            simp only [kOf] at hk
            cases qk : keyOf d2 with
            | none => rw [qk] at hk; cases hk
            | some k =>
              rw [qk] at hk
              cases hk
              obtain rfl := r2.key qk
              obtain ⟨z1, z2⟩ := x.write (o' := .dK (putK vs k v)) (ob' := .dct false (putDD false kvs [k] d3)) ha fun e => .dct upd_same ((rr.put k r3).ext e x.muts)
              exact d_setItem (by omega) I (.k hh (by rw [rr.length]; exact hz)) e2 e3 fun s' I' => ⟨_, m, I', z1, z2⟩
          | @dctT vs _ hh rr =>
            simp only [kOf] at hk
            cases r2 with
            | @tup b ws ds hb rs =>
              dsimp only at hk
              have e2' := keysOf_inv hk
              subst e2'
              obtain rfl := rs.keys
              obtain ⟨z1, z2⟩ := x.write (o' := .dT (putK vs ks v)) (ob' := .dct true (putDD true kvs ks d3)) ha fun e => .dctT upd_same ((rr.put ks r3).ext e x.muts)
              exact d_setItem (by omega) I (.t hh hb (by rw [rr.length]; exact hz)) e2 e3 fun s' I' => ⟨_, m, I', z1, z2⟩
            | _ => cases hk
      · cases q
    · cases q
  · cases q⟩
/-- {} -/
def lDctN (t : Bool) : LE := fun _ S => .ok (.ref S.length) (S ++ [.dct t []])
def lDct (t : Bool) : LE := fun _ S => .ok (.dct t []) S
theorem pel_dctNT {pos : Pos} : PEL X (.Dict [] [] pos) (lDctN true) := .of_pe pe_dnewT fun σ H m ρ S x er hp p hn => by
  obtain ⟨e, x'⟩ := x.snoc (o := .dT []) (ob := .dct true []) hn fun m' H' _ q => .dctT q .nil
  exact ⟨_, _, rfl, _, e, x', .ref (by rw [← x.len]; simp)⟩
theorem pel_dctT {pos : Pos} : PEL X (.Dict [] [] pos) (lDct true) := .of_pe pe_dnewT fun σ H m ρ S x er hp p hn => ⟨_, _, rfl, qv_new x hn (.dctT (x.nin hn) upd_same .nil)⟩
end
end MP

namespace MP
open PySem PySem.Spec PyProof.Rows L2

/-! ### sorted -/
def encD (d : D) : PyData := (toPD d).getD .none
def leD (a b : D) : Bool := PySem.W.dataLe false encD a b
def headT : PyData → Bool
  | .tuple (_ :: _) => true
  | _ => false
def plainT : PyData → Bool
  | .none => false
  | .tuple _ => false
  | _ => true
def srtOk (xs : List D) : Bool := xs.all (fun x => (toPD x).isSome) && (xs.all fun x => xs.all fun y => PySem.W.alike (encD x) (encD y)) && (xs.all (fun x => headT (encD x)) || xs.all fun x => plainT (encD x)) && xs.all (fun x => decide ((encD x).depth ≤ 50)) && decide (xs.length ≤ sizeLine)
theorem srtOk_inv {xs : List D} (h : srtOk xs = true) : (∀ x ∈ xs, toPD x = some (encD x)) ∧ PySem.W.AllAlike (xs.map encD) ∧ PySem.W.Sortable (xs.map encD) ∧ (∀ x ∈ xs, (encD x).depth ≤ 50) ∧ xs.length ≤ sizeLine := by
  unfold srtOk at h
  simp only [Bool.and_eq_true, List.all_eq_true, decide_eq_true_eq, Bool.or_eq_true] at h
  obtain ⟨⟨⟨⟨h1, h2⟩, h3⟩, h4⟩, h5⟩ := h
  refine ⟨fun x hx => ?_, fun d hd d' hd' => ?_, ?_, h4, h5⟩
  · unfold encD
    cases q : toPD x with
    | none => have := h1 x hx; rw [q] at this; cases this
    | some p => rfl
  · obtain ⟨x, hx, rfl⟩ := List.mem_map.mp hd
    obtain ⟨y, hy, rfl⟩ := List.mem_map.mp hd'
    exact h2 x hx y hy
  · rcases h3 with h3 | h3
    · refine .inl fun d hd => ?_
      obtain ⟨x, hx, rfl⟩ := List.mem_map.mp hd
      have := h3 x hx
      unfold headT at this
      split at this
      · exact ⟨_, _, ‹_›⟩
      · cases this
    · refine .inr fun d hd => ?_
      obtain ⟨x, hx, rfl⟩ := List.mem_map.mp hd
      have := h3 x hx
      refine ⟨fun z => ?_, fun ys z => ?_⟩
      · rw [z] at this; cases this
      · rw [z] at this; cases this
def IsV (K : PySem.W.Frag) (m : List Addr) (H : Hp) (v : Value) (d : D) : Prop := ∃ x, RelV x v ∧ VR K m H x d
theorem each_isV {K : PySem.W.Frag} {m : List Addr} {H : Hp} : ∀ {vs : List V} {us : List Value} {ds : List D}, Vals vs us → VRs K m H vs ds → PySem.W.EachIs (IsV K m H) us ds
  | _, _, _, .nil, .nil => .nil
  | _, _, _, .cons r t, .cons w z => .cons ⟨_, r, w⟩ (each_isV t z)
theorem of_each {K : PySem.W.Frag} {m : List Addr} {H : Hp} : ∀ {us : List Value} {ds : List D}, PySem.W.EachIs (IsV K m H) us ds → ∃ vs, Vals vs us ∧ VRs K m H vs ds
  | _, _, .nil => ⟨[], .nil, .nil⟩
  | _, _, .cons ⟨x, r, w⟩ t => by
    obtain ⟨vs, h1, h2⟩ := of_each t
    exact ⟨x :: vs, .cons r h1, .cons w h2⟩
section
variable {X : Cx} {pins : List (Addr × Obj)} {σ : L2.St} {H : Hp} {s : Shared} {m : List Addr} {S : Sto}
theorem each_reads (I : Inv X pins σ H s) {vs : List V} {us : List Value} {ds : List D} (r : Vals vs us) (w : VRs X.K m H vs ds) (h : ∀ x ∈ ds, toPD x = some (encD x)) : PySem.W.EachIs (fun v b => ∃ as, Reads s.heap v (encD b) as) us ds := by
  induction r generalizing ds with
  | nil => cases w; exact .nil
  | cons r t ih =>
    cases w with
    | cons w z => exact .cons (Dp.reads I _ _ _ (w.dp (h _ (by simp))) r) (ih z fun x hx => h x (by simp [hx]))
def gSorted : GC := fun S ds => match ds with
  | [d] => match vw S d with
    | .lst xs => if srtOk xs = true then some (.lst (xs.mergeSort leD)) else none
    | _ => none
  | _ => none
theorem cl_sorted (hu : X.A.units + 64 < cLine) : CallL X (.builtin "sorted") gSorted := ⟨fun pins s σ H m S xs ds d us I q r rv e => by
  unfold gSorted at e
  split at e
  · split at e
    · rename_i l qv
      split at e
      · rename_i hk
        cases e
        obtain ⟨h1, h2, h3, h4, h5⟩ := srtOk_inv hk
        obtain ⟨v, rfl, w⟩ := r.one
        obtain ⟨a, vs, rfl, hs, rr⟩ := vw_lst q w qv
        obtain ⟨its, rv2, hl, hz⟩ := I.list hs
        rw [Vals.ref1 rv]
        refine PySem.W.sorted_data (R := IsV X.K m H) hl.isList (each_isV rv2 rr) (each_reads I rv2 rr h1) h2 h3 h5 (fun b hb => by have := h4 b hb; omega) fun out ho hE => ?_
        obtain ⟨ws, k1, k2⟩ := of_each hE
        obtain ⟨ep, he'⟩ := PyProof.Rows.sortedAll_at s.heap its (List.toArray out)
        have hn : H (s.heap.objs.size + 1) = none := I.hok.fresh (Nat.le_succ _)
        refine ⟨.ref (s.heap.objs.size + 1), upd H (s.heap.objs.size + 1) (.lst ws), m, I.laid (t' := s.toks) (fun _ _ => PyProof.Rows.sortedAll_old) (Nat.le_succ _) ⟨by rw [k1.length, ho]; exact h5, out, ep, k1, he'⟩, rfl, Ext.fresh hn, q.fresh hn, ?_⟩
        exact vr_newLst q hn k2
      · cases e
    · cases e
  · cases e⟩
end
end MP

namespace MP
open PySem PySem.Spec PyProof.Rows L2

/-! ### the keys of a dict -/
section
variable {X : Cx} {pins : List (Addr × Obj)} {σ : L2.St} {H : Hp} {s : Shared} {m : List Addr} {S : Sto}
theorem VDk.keysR {K : PySem.W.Frag} {m : List Addr} {H : Hp} : ∀ {vs : List (Key × V)} {ds : List (D × D)}, VDk K m H vs ds → VRs K m H (vs.map fun p => kV p.1) (ds.map (·.1))
  | _, _, .nil => .nil
  | _, _, @VDk.cons _ _ _ k v d vs ds h r => by
    refine .cons ?_ r.keysR
    cases k with
    | inl i => exact .int i
    | inr s => exact .str s
theorem VRs.kVs {K : PySem.W.Frag} {m : List Addr} {H : Hp} : ∀ ks : List Key, VRs K m H (ks.map kV) (ks.map keyD)
  | [] => .nil
  | .inl i :: ks => .cons (.int i) (VRs.kVs ks)
  | .inr s :: ks => .cons (.str s) (VRs.kVs ks)
theorem VDt.keysR {K : PySem.W.Frag} {m : List Addr} {H : Hp} : ∀ {vs : List (List Key × V)} {ds : List (D × D)} {bs : List Addr}, VDt K m H vs ds → IsKeys H vs bs → VRs K m H (bs.map V.ref) (ds.map (·.1))
  | _, _, _, .nil, .nil => .nil
  | _, _, _, @VDt.cons _ _ _ k v d vs ds h r, .cons hb t => .cons (.tup hb (VRs.kVs k)) (r.keysR t)
theorem dict_src (I : Inv X pins σ H s) (x : SR X.K m H S) {v : V} {d : D} {t : Bool} {kvs : List (D × D)} (r : VR X.K m H v d) (e : vw S d = .dct t kvs) :
    ∃ (a : Addr) (P : Nat → Value → Prop) (OK : Heap → Prop), v = .ref a ∧ PySem.W.KdlSrc X.prog X.w "dict" a a kvs.length P OK ∧ OK s.heap ∧ kvs.length ≤ sizeLine ∧
      ∀ acc, ItemsOf P acc kvs.length → ∃ ks, Vals ks acc.toList ∧ VRs X.K m H ks (kvs.map (·.1)) := by
  obtain ⟨a, rfl, h⟩ := vw_dct x r e
  rcases h with ⟨rfl, vs, h, rr⟩ | ⟨rfl, vs, h, rr⟩
  · obtain ⟨z, lo, us, rk, hd⟩ := (show ObjOk X.prog X.w H s.heap a (.dK vs) from I.hok a _ h)
    obtain ⟨ep, hat⟩ := hd.dictAt
    have hl : vs.length = us.length := Paired.length rk
    have hl2 := rr.length
    have src := PySem.W.kdl_dict (knd := mixKind X.prog X.w) (kvs := us) (ep := ep) lo
    rw [← hl, hl2] at src
    refine ⟨a, _, _, rfl, src, hat, by rw [← hl2]; exact z, fun acc it => ⟨_, ?_, rr.keysR⟩⟩
    have e1 : (vs.map fun p => kV p.1) = us.map fun p => kV p.1 := by
      have := KV.keys rk
      have e2 : (vs.map fun p => kV p.1) = (vs.map (·.1)).map kV := by rw [List.map_map]; rfl
      have e3 : (us.map fun p => kV p.1) = (us.map (·.1)).map kV := by rw [List.map_map]; rfl
      rw [e2, e3, this]
    rw [e1]
    exact keys_at (by rw [Array.length_toList, it.1, ← hl2, hl]) fun j w hw => it.2 j w (by rw [← Array.getElem?_toList]; exact hw)
  · obtain ⟨z, hs, ks, pr, o, es, ep, ho, hx, hdt, he, hn⟩ := (show ObjOk X.prog X.w H s.heap a (.dT vs) from I.hok a _ h)
    have l1 : es.size = ks.length := size_of_entries he
    have l2 : vs.length = ks.length := Paired.length pr
    have l3 := rr.length
    have src := kdl_raw (prog := X.prog) (w := X.w) hs hx hdt
    rw [l1, ← l2, l3] at src
    refine ⟨a, _, _, rfl, src, ho, by rw [← l3]; exact z, fun acc it => ⟨_, ?_, rr.keysR (isKeys_of pr)⟩⟩
    have ea : acc.toList = ks.map fun x => Value.ref x.2.1 := by
      have hl : acc.toList.length = ks.length := by rw [Array.length_toList, it.1, ← l3, l2]
      apply List.ext_getElem?
      intro j
      rw [List.getElem?_map]
      cases hj : acc.toList[j]? with
      | none =>
        have h1 := List.getElem?_eq_none_iff.mp hj
        rw [List.getElem?_eq_none (by omega)]
        all_goals rfl
      | some v =>
        obtain ⟨en, hen, hv⟩ := it.2 j v (by rw [← Array.getElem?_toList]; exact hj)
        have qe := entry_at he j
        rw [hen] at qe
        cases hb : ks[j]? with
        | none =>
          rw [hb] at qe
          exact nomatch (show some en = none from qe)
        | some b =>
          rw [hb] at qe
          have e2 : en = entryOfKey (tupleKind (mixKind X.prog X.w)) b := Option.some.inj qe
          rw [hv, e2]
          all_goals rfl
    have eb : acc.toList = (ks.map fun x => x.2.1).map Value.ref := by rw [ea, List.map_map]; all_goals rfl
    rw [eb]
    exact vals_refs _
/-- list(d) -/
def gListD : GC := fun S ds => match ds with
  | [d] => match vw S d with
    | .dct _ kvs => some (.lst (kvs.map (·.1)))
    | _ => none
  | _ => none
/-- sorted(d) -/
def gSortedD : GC := fun S ds => match ds with
  | [d] => match vw S d with
    | .dct _ kvs => if srtOk (kvs.map (·.1)) = true then some (.lst ((kvs.map (·.1)).mergeSort leD)) else none
    | _ => none
  | _ => none
theorem cl_sortedD (hc : X.calm = true) (hu : X.A.units + 64 < cLine) : CallL X (.builtin "sorted") gSortedD := ⟨fun pins s σ H m S xs ds d us I q r rv e => by
  unfold gSortedD at e
  split at e
  · split at e
    · rename_i t kvs qv
      split at e
      · rename_i hk0
        cases e
        obtain ⟨h1, h2, h3, h4, h5⟩ := srtOk_inv hk0
        obtain ⟨v, rfl, w⟩ := r.one
        obtain ⟨a, P, OK, rfl, src, ok, hz, hk⟩ := dict_src I q w qv
        rw [Vals.ref1 rv]
        refine PySem.Calls.call_function_entry PyProof.Rows.kind_sorted PyProof.Rows.plain_sorted PyProof.Rows.entry_sorted (PyProof.Rows.args_sorted1 _) ?_
        unfold Builtin.«sorted»
        refine wpAny_bind (m := checkCount "sorted" 1 1 _) (wpAny_pure ?_)
        refine wpAny_bind (PySem.W.kdu_collect (A := X.A.in1) src (I.ok.hd hc) ok hz fun h' tk acc hkp hacc => ?_)
        obtain ⟨ks, k1, k2⟩ := hk acc hacc
        have hal : acc.toList.length = kvs.length := by rw [Array.length_toList]; exact hacc.1
        refine wpAny_bind (wpAny_newList ?_ (by rw [hal]; exact hz))
        have hoL : (h'.push (seqObj "list" acc.toList.toArray 0)).get? h'.objs.size = some (seqObj "list" acc.toList.toArray 0) := Heap.get?_push_size _ rfl
        show wpAny _ _ _ _ _ { s with heap := h'.push (seqObj "list" acc.toList.toArray 0), toks := tk }
        have I1 : Inv X pins σ H { s with heap := h', toks := tk } := I.kept hkp
        have er := each_reads I1 k1 k2 h1
        obtain ⟨H1, hH1⟩ : ∃ z, z = h'.push (seqObj "list" acc.toList.toArray 0) := ⟨_, rfl⟩
        have er' : PySem.W.EachIs (fun v b => ∃ as, Reads (PySem.W.sortingHeap H1 h'.objs.size acc.toList) v (encD b) as) acc.toList (kvs.map (·.1)) := er.mono fun _ _ ⟨as, r⟩ => ⟨as, PyProof.Rows.Reads.keeps (fun b o z => PySem.W.sortingHeap_old (Nat.ne_of_lt (Heap.lt_size z)) (hH1 ▸ Heap.get?_push_of_some _ z)) r⟩
        have hR := each_isV (K := X.K) (m := m) (H := H) k1 k2
        rw [← hH1] at hoL ⊢
        refine wpAny_bind (wpAny_holding (wpAny_call_entry PyProof.Rows.slot_list_sort ⟨_, hoL, rfl⟩ PyProof.Rows.entry_list_sort (PySem.W.list_sort_vals (κ := PySem.W.dataKind (PySem.W.sortingHeap H1 h'.objs.size acc.toList) ((kvs.map (·.1)).map encD)) (s := { s with heap := H1, toks := tk }) hoL
          (PySem.W.SortsAt.data (s := { s with heap := PySem.W.sortingHeap H1 h'.objs.size acc.toList, toks := tk }) (PySem.W.each_map (R := fun v d => ∃ as, Reads (PySem.W.sortingHeap H1 h'.objs.size acc.toList) v d as) encD er') h2 h3 (PySem.W.bound_map fun b hb => by have := h4 b hb; show X.A.units + 1 + 1 + _ < cLine; omega)) (by rw [hal]; exact hz) ⟨.none, rfl, ?_⟩) (PyProof.Rows.args_list_sort _)))
        have hE := PySem.W.sortVals_data false hR er' h2
        have ho := PySem.W.sortVals_length (κ := PySem.W.dataKind (PySem.W.sortingHeap H1 h'.objs.size acc.toList) ((kvs.map (·.1)).map encD)) (vs := acc.toList) false rfl
        obtain ⟨ws, q1, q2⟩ := of_each hE
        obtain ⟨ep, he'⟩ := PyProof.Rows.sortedHeap_at (vs := acc.toList) (out := (PySem.W.sortVals (PySem.W.dataKind (PySem.W.sortingHeap H1 h'.objs.size acc.toList) ((kvs.map (·.1)).map encD)) false acc.toList acc.toList).toArray) hoL
        have hn : H h'.objs.size = none := I1.hok.fresh (Nat.le_refl _)
        refine wpAny_pure ⟨_, rfl, .ref h'.objs.size, upd H h'.objs.size (.lst ws), m, I1.laid (t' := tk) (fun b u e => ?_) (Nat.le_refl _) ⟨by rw [q1.length, ho, hal]; exact hz, _, ep, q1, he'⟩, rfl, Ext.fresh hn, q.fresh hn, vr_newLst q hn q2⟩
        have hb : b < h'.objs.size := Heap.lt_size e
        rw [PyProof.Rows.sortedHeap_old (Nat.ne_of_lt hb) (by rw [hH1, size_push']; exact Nat.lt_succ_of_lt hb), hH1]
        exact Heap.get?_push_of_some _ e
      · cases e
    · cases e
  · cases e⟩
end
end MP

namespace MP
open PySem PySem.Spec PyProof.Rows L2
open AutoSeq1 (wpAny_loadPart')
section
variable {prog : Program} {w : World} {A : Around} {E : Value → Shared → Prop} {s : Shared}
theorem new_tuple_src {A' : Around} {R : Result → Shared → Prop} {l : Addr} {T : String} {n : Nat} {P : Nat → Value → Prop} {OK : Heap → Prop} (K : PySem.W.KdlSrc prog w T l l n P OK) (hh : A.handled = none) (hok : OK s.heap) (hn : n ≤ sizeLine) (hne : T ≠ "tuple") (hT : s.TypeIs (.ref l) T)
    (h : ∀ (h' : Heap) (tk : Nat) (acc : Array Value), (∀ b o, s.heap.get? b = some o → h'.get? b = some o) → ItemsOf P acc n → R (.ok (.ret (.ref h'.objs.size))) { s with heap := h'.push { cls := .type "tuple", data := .seq acc }, toks := tk }) :
    wpAny (model prog w) A (Builtin.«tuple.__new__» ⟨[.type "tuple", .ref l], []⟩) (fun fin s' => match fin with
      | .done f => R (.ok f) s'
      | .again c' => c'.quiet = true ∧ codeAny (model prog w) A' c' R s') (fun e s' => R (.error e) s') s := by
  obtain ⟨hp, g, d, tk, os⟩ := s
  have hsub := sub_tuple_self
  have hinit := init_tuple_lookup
  have hmh := madeHere_tuple
  have hc : ∀ {Q : List Value → Shared → Prop} {E' : Value → Shared → Prop}, (∀ (h' : Heap) (tk' : Nat) (acc : Array Value), (∀ b o, hp.get? b = some o → h'.get? b = some o) → ItemsOf P acc n → Q acc.toList ⟨h', g, d, tk', os⟩) → wpAny (model prog w) A (collect (.ref l)) Q E' ⟨hp, g, d, tk, os⟩ := fun hq => PySem.W.kdu_collect K hh hok hn fun h' tk' acc hk hacc => hq h' tk' acc hk hacc
  wp_walk using wpAny_typeOf hT, hc
  intro h' tk' acc hk it
  refine wpAny_bind (wpAny_pure ?_)
  show wpAny _ _ (Builtin.Tuple.tupleExact acc.toList.toArray >>= fun v => ret v) _ _ _
  unfold Builtin.Tuple.tupleExact
  refine wpAny_bind (wpAny_newObj_type ?_ (by show acc.toList.toArray.size ≤ sizeLine; rw [Array.toArray_toList, it.1]; exact hn))
  refine wpAny_pure ?_
  rw [Array.toArray_toList]
  exact h h' tk' acc hk it
theorem call_tuple_src {l : Addr} {T : String} {n : Nat} {P : Nat → Value → Prop} {OK : Heap → Prop} {Q : Value → Shared → Prop} (K : PySem.W.KdlSrc prog w T l l n P OK) (hh : A.handled = none) (hok : OK s.heap) (hn : n ≤ sizeLine) (hne : T ≠ "tuple")
    (h : ∀ (h' : Heap) (tk : Nat) (acc : Array Value), (∀ b o, s.heap.get? b = some o → h'.get? b = some o) → ItemsOf P acc n → Q (.ref h'.objs.size) { s with heap := h'.push { cls := .type "tuple", data := .seq acc }, toks := tk }) :
    wpAny (model prog w) A (call (.type "tuple") [.ref l]) Q E s := by
  have hT : s.TypeIs (.ref l) T := K.type _ hok
  refine callType_codes (T := "tuple") (Bi := Builtin.«object.__init__») (Q₁ := fun r s₁ => s₁.TypeIs r "tuple" ∧ Q r s₁) PySem.F.called_tuple (PySem.F.typeCall_tuple_1 _) PySem.F.entry_object_init ?_ ?_
  · refine codeAny_of_tree ?_
    show wpAny _ A.in1.in1 (do checkBuiltinCall "tuple.__new__" ⟨[.type "tuple", .ref l], []⟩; again (.builtin "tuple.__new__" ⟨[.type "tuple", .ref l], []⟩)) _ _ s
    refine wpAny_bind (wpAny_of_eq (PySem.F.newCall_tuple_1 _) (wpAny_pure ⟨plainId_quiet (by decide +kernel) _, codeAny_builtin PySem.F.entry_tuple_new ?_⟩))
    rw [Around.under_plainId (by decide +kernel) _]
    exact new_tuple_src (A := A.in1.in1) (A' := A.in1) (R := wants (fun r s₁ => s₁.TypeIs r "tuple" ∧ Q r s₁) E) K hh hok hn hne hT fun h' tk acc hk it => ⟨⟨_, Heap.get?_push_size _ rfl, rfl⟩, h h' tk acc hk it⟩
  · rintro obj s₁ ⟨ht, hq⟩
    exact ⟨ht, PySem.F.args_object_init_2 _ _, object_init_meets PySem.F.called_tuple.init.lookup PySem.F.called_tuple.made (by decide) prog w A.in1 _ s₁ ⟨ht, rfl, hq⟩⟩
end
section
variable {X : Cx}
/-- tuple(d) -/
def gTupD : GC := fun S ds => match ds with
  | [d] => match vw S d with
    | .dct _ kvs => some (.tup (kvs.map (·.1)))
    | _ => none
  | _ => none
theorem cl_tupD (hc : X.calm = true) : CallL X (.type "tuple") gTupD := ⟨fun pins s σ H m S xs ds d us I q r rv e => by
  unfold gTupD at e
  split at e
  · split at e
    · rename_i t kvs qv
      cases e
      obtain ⟨v, rfl, w⟩ := r.one
      obtain ⟨a, P, OK, rfl, src, ok, hz, hk⟩ := dict_src I q w qv
      rw [Vals.ref1 rv]
      refine call_tuple_src src (I.ok.hd hc) ok hz (by decide) fun h' tk acc kp it => ?_
      obtain ⟨ks, k1, k2⟩ := hk acc it
      have I1 : Inv X pins σ H { s with heap := h', toks := tk } := I.kept kp
      have hn : H h'.objs.size = none := I1.hok.fresh (Nat.le_refl _)
      refine ⟨.ref h'.objs.size, _, m, I1.laid (t' := tk) (o := .tup ks) (fun b o e => Heap.get?_push_of_some _ e) (Nat.le_refl _) ⟨by rw [k2.length, List.length_map]; exact hz, acc.toList, k1, ?_⟩, rfl, Ext.fresh hn, q.fresh hn, vr_newTup q hn k2⟩
      have := IsTup.new h' acc
      rw [← Array.toArray_toList (xs := acc)] at this
      exact this
    · cases e
  · cases e⟩
end
end MP

/-! isinstance and fields of an exception that is a value (the two lemmas ahead: lines of HandS.ExcIs, turned to an exception with a dict) -/
namespace PySem.W
open PySem PySem.Spec PySem.Calls PyProof.Rows
section
variable {prog : Program} {w : World} {A : Around} {E : Value → Shared → Prop} {s : Shared} {K : Frag} {x D : Addr} {ox : Obj} {od : Option Obj}
end
end PySem.W
namespace MP
open PySem PySem.Spec PyProof.Rows L2
section
variable {X : Cx} {pins : List (Addr × Obj)} {σ : L2.St} {H : Hp} {s : Shared} {m : List Addr} {S : Sto}
variable {e : Expr} {pos : Pos} {l : LE} {Cs : List Addr} {f : Str}
/-- e.f, e an exception of one of the classes -/
def gFldE (Cs : List Addr) (f : Str) (S : Sto) (d : D) : Option D := match vw S d with
  | .exn C fs => if C ∈ Cs then fs.lookup f else none
  | _ => none
def lFldE (Cs : List Addr) (f : Str) (l : LE) : LE := fun ρ S => (l ρ S).bind fun d S1 => lift1 (gFldE Cs f S1 d) S1
/-- isinstance(e, c), e an exception -/
structure IsEOk (K : PySem.W.Frag) (c : Value) (tab : Addr → Option Bool) : Prop where
  one : ∀ C b, tab C = some b → PySem.W.kitOne K (.ref C) c = some b ∧ ExcC K C
def gIsE (tab : Addr → Option Bool) (S : Sto) (d : D) : Option D := match vw S d with
  | .exn C _ => (tab C).map .bl
  | _ => none
def lIsE (tab : Addr → Option Bool) (l : LE) : LE := fun ρ S => (l ρ S).bind fun d S1 => lift1 (gIsE tab S1 d) S1
end
end MP

/-! own exceptions made as values -/
namespace MP
open PySem PySem.Spec PyProof.Rows L2
/-! ### the bodies of __init__ -/
/-- what a class C with an __init__ of its own must have -/
structure MkE (K : PySem.W.Frag) (C f : Addr) (fs : List Str) : Prop where
  T : OexC K C
  i : PySem.W.findIn K (.ref C) "__init__" = some (some (.ref f))
  t : PySem.W.typeIn K (.ref f) = some (.type "function")
  no : ∀ g ∈ fs, PySem.W.findIn K (.ref C) g = some none
section
variable {X : Cx} {pins : List (Addr × Obj)} {σ : L2.St} {H : Hp} {s : Shared} {m : List Addr} {S : Sto} {C f : Addr} {fs ps : List Str} {k : Nat} {fd : FuncData}
abbrev FnE (P : Program) (w : World) (K : PySem.W.Frag) (mg : Str → Option Value) (base : Heap) (k : Nat) (f : Addr) (fd : FuncData) (ps fs : List Str) : Prop := FnOk P w K mg base (L2.CX P w) k f fd ps (spE K fs)
end
end MP

namespace MP
open PySem PySem.Spec PyProof.Rows L2
section
variable {X : Cx} {e : Expr} {pos p : Pos} {es : List Expr} {kws : List Keyword} {t tk : LA} {x : Str} {k : Nat} {f C : Addr} {fd : FuncData} {ps ks fs : List Str}
def mkE (C : Addr) (fs : List Str) (ds : List D) (S : Sto) : R D := if ds.length = fs.length then .ok (.exn C (fs.zip ds).reverse) S else .bad
/-- C(k = v, ..), likewise; pk: the order of the values, self being 0 -/
def mkEk (C : Addr) (fs ks : List Str) (pk : List Nat) (ds : List D) (S : Sto) : R D := if ds.length = ks.length ∧ (pick pk ds).length = fs.length then .ok (.exn C (fs.zip (pick pk ds)).reverse) S else .bad
end
end MP

/-! an exception that a handler keeps: it is taken into the abstract heap -/
namespace MP
open PySem PySem.Spec PyProof.Rows L2
section
variable {X : Cx} {pins : List (Addr × Obj)} {σ : L2.St} {H : Hp} {s : Shared} {a : Addr} {o : HO}
end
end MP

/-! try: .. except C as n: .., the exception being a value from the handler on (the road of L2.ps_try_as) -/
namespace MP
open PySem PySem.Spec PyProof.Rows L2
def endH (i : Nat) (fl : Fl) (S : Sto) : R Fl := match fl with
  | .nx ρ => .ok (.nx (ρ.set i none)) S
  | .bk ρ => .ok (.bk (ρ.set i none)) S
  | .ct ρ => .ok (.ct (ρ.set i none)) S
  | .rt d => .ok (.rt d) S
  | .ex _ _ _ => .bad
def catchH (i : Nat) (tab : Addr → Option Bool) (ls : LS) (fl : Fl) (S : Sto) : R Fl := match fl with
  | .ex C fs ρ => match tab C with
    | some true => (ls (ρ.set i (some (.exn C fs))) S).bind (endH i)
    | some false => .ok (.ex C fs ρ) S
    | none => .bad
  | fl => .ok fl S
def lTryA (i : Nat) (tab : Addr → Option Bool) (lb ls : LS) : LS := fun ρ S => (lb ρ S).bind (catchH i tab ls)
section
variable {X : Cx} {x n : Str} {c : Value} {i : Nat} {body suite : List Stmt} {b₀ : Stmt} {np pos pos' : Pos} {lb ls : LS} {tab : Addr → Option Bool}
end
end MP

/-! raise C(e, ..), C an own class with an __init__ of its own -/
namespace MP
open PySem PySem.Spec PyProof.Rows L2
section
variable {X : Cx} {e : Expr} {es : List Expr} {ta : TA} {p pos : Pos}
end
section
variable {X : Cx} {e : Expr} {pos pos' p : Pos} {es : List Expr} {t : LA} {x : Str} {k : Nat} {f C : Addr} {fd : FuncData} {ps fs : List Str}
def lRaiseE (C : Addr) (fs : List Str) (t : LA) : LS := fun ρ S => liftX ρ (t ρ S) fun ds S1 => if ds.length = fs.length then .ok (.ex C (fs.zip ds).reverse ρ) S1 else .bad
end
end MP

namespace MP
open PySem PySem.Spec PyProof.Rows L2
/-- a short text times a small int -/
def strRep (x : Str) (n : Int) : Str := if n < 1 then Str.empty else if (n == 1 || x.length == 0) = true then x else ⟨(List.replicate n.toNat x.cps).foldl (· ++ ·) #[]⟩
def gMulS : G2 := fun S dx dy => match vw S dx, vw S dy with
  | .str x, .int n => if 0 ≤ n ∧ n ≤ 1000 ∧ x.length ≤ 1000 ∧ (strRep x n).length ≤ sizeLine then some (.str (strRep x n)) else none
  | _, _ => none
theorem opl_mulS {X : Cx} : OpL X (binaryOp .Mult) gMulS := ⟨fun pins s σ H m S x y dx dy d v u I q rx ry rv ru e => by
  unfold gMulS at e
  split at e
  · rename_i a n e1 e2
    split at e
    · rename_i hz
      obtain ⟨h0, h1, h2, h3⟩ := hz
      cases e
      have ea := vw_str rx e1
      have eb := vw_int ry e2
      subst ea
      subst eb
      obtain ⟨t, rfl⟩ := rv
      obtain ⟨t2, rfl⟩ := ru
      have hsz : (sizeLine : Nat) ≥ 1000000 := by rw [sizeLine_eq]; omega
      refine PySem.P.mul_str ?_ (fun a1 a2 => ?_) (fun a1 a2 => ?_) ?_
      · rw [decide_eq_false (by omega), decide_eq_false (by omega)]; rfl
      · have : (2 ^ 63 - 1) / n ≥ (2 ^ 63 - 1) / 1000 := by
          have hn : 0 < n := by omega
          rw [ge_iff_le, Int.le_ediv_iff_mul_le hn]
          have : (2 ^ 63 - 1 : Int) / 1000 * n ≤ (2 ^ 63 - 1 : Int) / 1000 * 1000 := Int.mul_le_mul_of_nonneg_left h1 (by decide)
          have z : (2 ^ 63 - 1 : Int) / 1000 * 1000 ≤ 2 ^ 63 - 1 := by decide
          omega
        have z : (2 ^ 63 - 1 : Int) / 1000 ≥ 1000 := by decide
        omega
      · unfold Builtin.Str.tooLong
        refine decide_eq_false ?_
        have : a.length * n.toNat ≤ 1000 * 1000 := Nat.mul_le_mul h2 (by omega)
        omega
      · unfold strRep at h3 ⊢
        by_cases c1 : n < 1
        · rw [if_pos c1] at h3 ⊢
          rw [if_pos c1]
          exact ⟨h3, .str _, H, m, I.tok _, ⟨_, rfl⟩, Ext.refl, q, .str _⟩
        · rw [if_neg c1] at h3 ⊢
          rw [if_neg c1]
          by_cases c2 : (n == 1 || a.length == 0) = true
          · rw [if_pos c2] at h3 ⊢
            rw [if_pos c2]
            exact ⟨.str _, H, m, I, ⟨_, rfl⟩, Ext.refl, q, .str _⟩
          · rw [if_neg c2] at h3 ⊢
            rw [if_neg c2]
            exact ⟨h3, .str _, H, m, I.tok _, ⟨_, rfl⟩, Ext.refl, q, .str _⟩
    · cases e
  · cases e⟩
end MP

/-! repr of deep data, an empty dict in it too (the road of ReprK.of_reads) -/
namespace MP
open PySem PySem.Spec PyProof.Rows L2
mutual
def toPE : D → Option PyData
  | .non => some .none
  | .bl b => some (.bool b)
  | .int i => some (.int i)
  | .str s => some (.str s)
  | .tup xs => (toPEs xs).map .tuple
  | .ftup xs => (toPEs xs).map .tuple
  | .lst xs => (toPEs xs).map .list
  | .dct _ [] => some (.dict [])
  | _ => none
def toPEs : List D → Option (List PyData)
  | [] => some []
  | x :: xs => (toPE x).bind fun a => (toPEs xs).map fun b => a :: b
end
mutual
inductive De (K : PySem.W.Frag) (H : Hp) : V → PyData → Prop
  | non : De K H .non .none
  | bl (b : Bool) : De K H (.bl b) (.bool b)
  | int (i : Int) : De K H (.int i) (.int i)
  | str (x : Str) : De K H (.str x) (.str x)
  | lst {a : Addr} {xs : List V} {ds : List PyData} : SqL K H a xs → DeAll K H xs ds → De K H (.ref a) (.list ds)
  | tup {a : Addr} {xs : List V} {ds : List PyData} : SqT K H a xs → DeAll K H xs ds → De K H (.ref a) (.tuple ds)
  | dk {a : Addr} : H a = some (.dK []) → De K H (.ref a) (.dict [])
  | dt {a : Addr} : H a = some (.dT []) → De K H (.ref a) (.dict [])
inductive DeAll (K : PySem.W.Frag) (H : Hp) : List V → List PyData → Prop
  | nil : DeAll K H [] []
  | cons {v : V} {vs : List V} {d : PyData} {ds : List PyData} : De K H v d → DeAll K H vs ds → DeAll K H (v :: vs) (d :: ds)
end
section
variable {K : PySem.W.Frag} {m : List Addr} {H : Hp}
end
section
variable {X : Cx} {pins : List (Addr × Obj)} {σ : L2.St} {H : Hp} {s : Shared} {prog : Program} {w : World}
end
end MP

/-! repr(d) of deep data; list(..) put into the store; list + list -/
namespace MP
open PySem PySem.Spec PyProof.Rows L2
section
variable {X : Cx} {pins : List (Addr × Obj)} {σ : L2.St} {H : Hp} {s : Shared}
end
def gReprD : GC := fun S ds => match ds with
  | [d] => match toPE d with
    | some p => if p.showable = true ∧ p.shown.length ≤ sizeLine ∧ p.depth ≤ 40 then some (.str p.shown) else none
    | none => none
  | _ => none
/-! ### list(..) put into the store -/
def gItems (S : Sto) (ds : List D) : Option (List D) := match ds with
  | [d] => match vw S d with
    | .lst xs => some xs
    | .tup xs => some xs
    | _ => none
  | _ => none
def lListN (t : LA) : LE := fun ρ S => (t ρ S).bind fun ds S1 => match gItems S1 ds with
  | some ys => .ok (.ref S1.length) (S1 ++ [.lst ys])
  | none => .bad
theorem pel_listN {X : Cx} {x : Str} {e : Expr} {es : List Expr} {t : LA} {p pos : Pos} (hg : Gl X x) (hm : X.mg x = none) (hv : bootBuiltins x = some (.type "list")) (ha : PAL X (e :: es) t) (hn : x ≠ "__name__" := by decide) (hdb : (x == ("__debug__" : Str)) = false := by decide)
    (he : starEach (e :: es) X.env = (false, eval e X.env) :: starEach es X.env := by rfl) (hpl : (backTo pos (starEach es X.env)).any (·.1) = false := by rfl) : PEL X (.Call (.Name x p) (e :: es) [] pos) (lListN t) := by
  refine ⟨fun pins s σ H m ρ S I x r hp => ?_⟩
  refine wpAny_Call_Name_kw (ld_blt I hg hm hv ?_ hn hdb)
  refine PyProof.Rows.callWith_type1 (run_seqA ha I x r hp fun ds S1 q1 vs us s1 H1 m1 I1 rv e1 x1 w1 r1 hp1 => ?_) he hpl
  cases qi : gItems S1 ds with
  | none => rw [qi] at hp1; exact absurd rfl hp1.1
  | some ys =>
    have e0 : lListN t ρ S = .ok (.ref S1.length) (S1 ++ [.lst ys]) := by unfold lListN; rw [q1, bind_ok, qi]
    rw [e0]
    unfold gItems at qi
    split at qi
    · obtain ⟨v, rfl, rv'⟩ := w1.one
      have fin : ∀ {a : Addr} {vs : List V}, v = .ref a → (SqL X.K H1 a vs ∨ SqT X.K H1 a vs) → VRs X.K m1 H1 vs ys → wpAny (model X.prog X.w) X.A (call (.type "list") us) (VPr X pins σ m H (.ok (.ref S1.length) (S1 ++ [.lst ys]))) X.xe s1 := by
        intro a vs ev h1 r1
        subst ev
        refine thn (call_list_of pins s1 σ H1 _ us (fun v' H' => ∃ l, H1 l = none ∧ v' = .ref l ∧ H' = upd H1 l (.lst vs)) I1 rv ⟨a, vs, rfl, h1, fun l hl => ⟨l, hl, rfl, rfl⟩⟩) fun u s2 ⟨v2, H2, I2, rv2, l, hl, ev2, eH⟩ => ?_
        subst ev2
        subst eH
        obtain ⟨m', z1, z2, z3⟩ := qv_newL x1 hl r1
        exact (vpr_of ⟨.ref l, _, m', I2, rv2, z1, z2, z3⟩).left e1
      split at qi
      · rename_i zs e1'
        cases qi
        obtain ⟨a, vs, ev, h1, r1⟩ := vw_lst x1 rv' e1'
        exact fin ev (.inl h1) r1
      · rename_i zs e1'
        cases qi
        obtain ⟨a, vs, ev, h1, r1⟩ := vw_tup rv' e1'
        exact fin ev (.inr (SqT.of h1)) r1
      · cases qi
    · cases qi
end MP

/-! list + list; isinstance tables of exceptions -/
namespace MP
open PySem PySem.Spec PyProof.Rows L2
theorem list_add_any (l : Addr) (ol : Obj) (items : Array Value) (n : Nat) (b : Addr) (ob : Obj) (items2 : Array Value) (n2 : Nat) (hz : items.size + items2.size ≤ sizeLine) :
    Meets (Builtin.«list.__add__» ⟨[.ref l, .ref b], []⟩) (fun _ R s => s.heap.get? l = some ol ∧ ol.data = .seq items n ∧ s.heap.get? b = some ob ∧ ob.cls = .type "list" ∧ ob.data = .seq items2 n2 ∧
      R (.ok (.ret (Value.ref s.heap.objs.size))) { s with heap := s.heap.push { cls := Value.type "list", data := Data.seq (items ++ items2) } }) :=
  .of_wp fun prog w A R s h => by
    obtain ⟨hl, hd, hb, hc, hd2, h⟩ := h
    have f3 := sub_list_list
    have tb : s.TypeIs (.ref b) "list" := ⟨ob, hb, hc⟩
    unfold Builtin.«list.__add__»
    refine wpAny_bind (wpAny_of_eq (a := ((Value.ref l : Value), [Value.ref b])) (by first | rfl | (simp only [slotArgs]; rfl)) ?_)
    refine wpAny_bind (wpAny_isInstance tb f3 ?_)
    simp only [Bool.not_true, Bool.false_eq_true, if_false]
    first
      | exact wpAny_bind (wpAny_bind (wpAny_listItems hl hd (wpAny_bind (wpAny_listItems hb hd2 (wpAny_newObj_type (wpAny_pure ⟨_, rfl, h⟩) (by first | size_fits | (show (items ++ items2).size ≤ sizeLine; rw [Array.size_append]; omega)))))))
      | exact wpAny_bind (wpAny_listItems hl hd (wpAny_bind (wpAny_listItems hb hd2 (wpAny_bind (wpAny_newObj_type (wpAny_pure ⟨_, rfl, h⟩) (by first | size_fits | (show (items ++ items2).size ≤ sizeLine; rw [Array.size_append]; omega)))))))

section
variable {X : Cx}
theorem opl_catL : OpL X (binaryOp .Add) gCatL := ⟨fun pins s σ H m S x y dx dy d v u I q rx ry ex ey e => by
  obtain ⟨i, j, e1, e2, e3⟩ := g2L_inv e
  split at e3
  · rename_i hz
    cases e3
    obtain ⟨a, xs, rfl, ha, r1⟩ := vw_lst q rx e1
    obtain ⟨b, ys, rfl, hb, r2⟩ := vw_lst q ry e2
    obtain rfl : v = Value.ref a := ex
    obtain rfl : u = Value.ref b := ey
    obtain ⟨its, rv, ⟨o, n, h1, h2, hn, h3⟩, hz1⟩ := I.list ha
    obtain ⟨its2, rv2, ⟨o2, n2, g1, g2, gn, g3⟩, hz2⟩ := I.list hb
    have hl : its.length + its2.length ≤ sizeLine := by rw [← rv.length, ← rv2.length, r1.length, r2.length]; exact hz
    refine concat_meets ⟨_, h1, h2⟩ ⟨_, g1, g2⟩ noFill_list_add seq_list_add F.slot_list_add F.entry_list_add (F.args_list_add_2 _ _) (list_add_any a o its.toArray n b o2 its2.toArray n2 (by rw [List.size_toArray, List.size_toArray]; exact hl)) ⟨h1, h3, g1, g2, g3, ?_⟩
    have ea : its.toArray ++ its2.toArray = (its ++ its2).toArray := by simp
    rw [ea]
    have hf : H s.heap.objs.size = none := I.hok.fresh (Nat.le_refl _)
    have hl2 : (xs ++ ys).length ≤ sizeLine := by rw [List.length_append, r1.length, r2.length]; exact hz
    exact ⟨.ref s.heap.objs.size, upd H s.heap.objs.size (.lst (xs ++ ys)), m, I.laid (t' := s.toks) (fun b u e => Heap.get?_push_of_some _ e) (Nat.le_refl _) ⟨hl2, its ++ its2, 0, rv.append rv2, Heap.get?_push_size _ rfl⟩, rfl, Ext.fresh hf, q.fresh hf, vr_newLst q hf (r1.append r2)⟩
  · cases e3⟩
def gAdd2 : G2 := fun S x y => (gAdd S x y).or (gCatL S x y)
theorem opl_add2 : OpL X (binaryOp .Add) gAdd2 := opl_add.or opl_catL
end
open Classical in
noncomputable def tabE (K : PySem.W.Frag) (c : Value) : Addr → Option Bool := fun D => if ExcC K D then PySem.W.kitOne K (.ref D) c else none
end MP

/-! words on texts and lists of texts -/
namespace MP
open PySem PySem.Spec PyProof.Rows L2
section
variable {X : Cx}
/-- a sign in a text -/
def gInSg : G2 := fun S x y => match vw S x, vw S y with
  | .str i, .str z => match i.cps.toList with
    | [c] => some (.bl (decide (c ∈ z.cps.toList)))
    | _ => none
  | _, _ => none
theorem str_one {i : Str} {c : Nat} (h : i.cps.toList = [c]) : i = ⟨#[c]⟩ := by
  obtain ⟨⟨l⟩⟩ := i
  have : l = [c] := h
  rw [this]
theorem opl_inSg : OpL X (compareOp .In) gInSg := .of op_in_sign fun H m S x y dx dy d q rx ry e => by
  unfold gInSg at e
  split at e
  · rename_i i z e1 e2
    split at e
    · rename_i c hc
      cases e
      have h := str_one hc
      subst h
      exact ⟨c, z, vw_str rx e1, vw_str ry e2, qv_same q (.bl _)⟩
    · cases e
  · cases e
def gLeS : G2 := g2S fun i j => some (.bl (!decide (j.cps.toList < i.cps.toList)))
def gGtS : G2 := g2S fun i j => some (.bl (decide (j.cps.toList < i.cps.toList)))
theorem opl_leS : OpL X (compareOp .LtE) gLeS := .of op_le_str fun H m S x y dx dy d q rx ry e => by
  obtain ⟨i, j, e1, e2, e3⟩ := g2S_inv e
  cases e3
  exact ⟨i, j, vw_str rx e1, vw_str ry e2, qv_same q (.bl _)⟩
theorem opl_gtS : OpL X (compareOp .Gt) gGtS := .of op_gt_str fun H m S x y dx dy d q rx ry e => by
  obtain ⟨i, j, e1, e2, e3⟩ := g2S_inv e
  cases e3
  exact ⟨i, j, vw_str rx e1, vw_str ry e2, qv_same q (.bl _)⟩
/-- a text in a list of texts -/
def strsD : List D → Option (List Str)
  | [] => some []
  | .str x :: r => (strsD r).map fun ys => x :: ys
  | _ :: _ => none
theorem strsD_map : ∀ ys : List Str, strsD (ys.map D.str) = some ys
  | [] => rfl
  | y :: ys => by show (strsD (ys.map D.str)).map _ = _; rw [strsD_map ys]; rfl
theorem strsD_eq : ∀ {ds : List D} {ys : List Str}, strsD ds = some ys → ds = ys.map D.str
  | [], ys, h => by cases h; rfl
  | d :: ds, ys, h => by
    cases d with
    | str x =>
      simp only [strsD] at h
      cases q : strsD ds with
      | none => rw [q] at h; cases h
      | some zs => rw [q] at h; cases h; rw [strsD_eq q]; rfl
    | _ => simp [strsD] at h
theorem vrs_strs {K : PySem.W.Frag} {m : List Addr} {H : Hp} : ∀ {vs : List V} {ys : List Str}, VRs K m H vs (ys.map D.str) → vs = ys.map V.str
  | _, [], .nil => rfl
  | _, y :: ys, .cons h r => by cases h; rw [vrs_strs r]; rfl
theorem inV_strs (x : Str) (ys : List Str) : inV (.str x) (ys.map V.str) = decide (x ∈ ys) := by
  unfold inV
  induction ys with
  | nil => simp
  | cons y ys ih =>
    rw [List.map_cons, List.any_cons, ih]
    show ((y == x) || decide (x ∈ ys)) = decide (x ∈ y :: ys)
    by_cases h : y = x
    · subst h; simp
    · have : (y == x) = false := beq_eq_false_iff_ne.mpr h
      simp [this, Ne.symm h]
def gInL : G2 := fun S x y => match vw S x, vw S y with
  | .str i, .lst l => (strsD l).map fun ys => .bl (decide (i ∈ ys))
  | _, _ => none
def gNotInL : G2 := fun S x y => match vw S x, vw S y with
  | .str i, .lst l => (strsD l).map fun ys => .bl (!decide (i ∈ ys))
  | _, _ => none
theorem flat_strs (ys : List Str) : (ys.map V.str).all flatV = true := by simp [flatV]
theorem opl_inL : OpL X (compareOp .In) gInL := .of op_in_seq fun H m S x y dx dy d q rx ry e => by
  unfold gInL at e
  split at e
  · rename_i i l e1 e2
    cases hs : strsD l with
    | none => rw [hs] at e; cases e
    | some ys =>
      rw [hs] at e
      cases e
      have hl := strsD_eq hs
      subst hl
      have ex := vw_str rx e1
      subst ex
      obtain ⟨a, vs, rfl, h1, r⟩ := vw_lst q ry e2
      have hv := vrs_strs r
      subst hv
      refine ⟨a, _, rfl, .inl h1, rfl, flat_strs ys, ?_⟩
      show QV X.K m H S _ (.bl (inV (.str i) (ys.map V.str))) H
      rw [inV_strs]
      exact qv_same q (.bl _)
  · cases e
theorem opl_notInL : OpL X (compareOp .NotIn) gNotInL := .of op_notIn_seq fun H m S x y dx dy d q rx ry e => by
  unfold gNotInL at e
  split at e
  · rename_i i l e1 e2
    cases hs : strsD l with
    | none => rw [hs] at e; cases e
    | some ys =>
      rw [hs] at e
      cases e
      have hl := strsD_eq hs
      subst hl
      have ex := vw_str rx e1
      subst ex
      obtain ⟨a, vs, rfl, h1, r⟩ := vw_lst q ry e2
      have hv := vrs_strs r
      subst hv
      refine ⟨a, _, rfl, .inl h1, rfl, flat_strs ys, ?_⟩
      show QV X.K m H S _ (.bl (!inV (.str i) (ys.map V.str))) H
      rw [inV_strs]
      exact qv_same q (.bl _)
  · cases e
/-- int(a truth), int(an int) -/
def gInt1 : GC := fun _ ds => match ds with
  | [.int i] => some (.int i)
  | [.bl b] => some (.int (if b then 1 else 0))
  | _ => none
theorem cl_int1 : CallL X (.type "int") gInt1 := .of call_int1 fun H m S xs ds d q r e => by
  unfold gInt1 at e
  split at e
  · cases e
    obtain ⟨v, rfl, rv⟩ := r.one
    cases rv
    exact .inl ⟨_, rfl, qv_same q (.int _)⟩
  · cases e
    obtain ⟨v, rfl, rv⟩ := r.one
    cases rv
    exact .inr ⟨_, rfl, qv_same q (.int _)⟩
  · cases e
/-- a power of any number -/
def gPowB : G2 := g2I fun i j => if 0 ≤ j ∧ (Builtin.Int.intBits i : Int) * j ≤ 2 ^ 27 then some (.int (i ^ j.toNat)) else none
end
/-! ### split, join, strip -/
section
variable {X : Cx}
def stSplit : GM := fun S r ds => match r, ds with
  | .str a, [.str b] => if (b.length == 0) = false ∧ a.length + 2 ≤ sizeLine then some (.lst ((Txt.split a b).map D.str), S) else none
  | _, _ => none
def stStripC : GM := fun S r ds => match r, ds with
  | .str a, [.str b] => if a.length ≤ sizeLine then some (.str (Txt.stripChars a b), S) else none
  | _, _ => none
def stJoin : GM := fun S r ds => match r, ds with
  | .str a, [d] => match vw S d with
    | .lst l => match strsD l with
      | some ys => if (ys.map (·.length)).sum + ys.length * a.length ≤ 16777216 then some (.str (Txt.join a ys), S) else none
      | none => none
    | _ => none
  | _, _ => none
variable {o e : Expr} {lo le : LE} {apos cpos : Pos}
end
end MP

/-! zip of two; pairs of texts by < -/
namespace MP
open PySem PySem.Spec PyProof.Rows L2
def zipD (xs ys : List D) : List D := List.zipWith (fun x y => D.tup [x, y]) xs ys
theorem zipD_get {xs ys : List D} {i : Nat} {d : D} (h : (zipD xs ys)[i]? = some d) : ∃ x y, xs[i]? = some x ∧ ys[i]? = some y ∧ d = .tup [x, y] := by
  unfold zipD at h
  rw [List.getElem?_zipWith] at h
  cases q : xs[i]? with
  | none => rw [q] at h; cases h2 : ys[i]? <;> rw [h2] at h <;> cases h
  | some x =>
    cases q2 : ys[i]? with
    | none => rw [q, q2] at h; cases h
    | some y => rw [q, q2] at h; cases h; exact ⟨x, y, rfl, rfl, rfl⟩
theorem zipD_length (xs ys : List D) : (zipD xs ys).length = min xs.length ys.length := by simp [zipD]
section
variable {K : PySem.W.Frag} {m1 : List Addr} {H1 : Hp}
theorem sql_stays {v : V} {xs : List D} (w : VR K m1 H1 v (.lst xs)) : ∃ a vs, v = .ref a ∧ VRs K m1 H1 vs xs ∧ SqL K H1 a vs ∧ ∀ (m2 : List Addr) (H2 Hx : Hp), Ext m1 H1 m2 H2 → (∀ a o, H2 a = some o → Hx a = some o) → SqL K Hx a vs := by
  cases w with
  | @lst a vs _ n h r =>
    refine ⟨a, vs, rfl, r, .inl h, fun m2 H2 Hx e sup => ?_⟩
    have h2 := e.rd n h
    rcases h2 with h2 | ⟨o, h2⟩
    · exact .inl (.inl (sup _ _ h2))
    · exact .inl (.inr ⟨o, sup _ _ h2⟩)
  | @lstK a vs _ ob its n hk h1 h2 h3 h4 h5 r => exact ⟨a, vs, rfl, r, .inr ⟨ob, its, n, hk, h1, h2, h3, h4, h5⟩, fun _ _ _ _ _ => .inr ⟨ob, its, n, hk, h1, h2, h3, h4, h5⟩⟩
theorem sqt_stays (mu : ∀ a ∈ m1, Mut (H1 a)) {v : V} {xs : List D} (w : VR K m1 H1 v (.tup xs)) : ∃ a vs, v = .ref a ∧ VRs K m1 H1 vs xs ∧ SqT K H1 a vs ∧ ∀ (m2 : List Addr) (H2 Hx : Hp), Ext m1 H1 m2 H2 → (∀ a o, H2 a = some o → Hx a = some o) → SqT K Hx a vs := by
  cases w with
  | @tup a vs _ h r => exact ⟨a, vs, rfl, r, SqT.of h, fun m2 H2 Hx e sup => SqT.of (sup _ _ (tup_ext e mu h))⟩
theorem sqf_stays (mu : ∀ a ∈ m1, Mut (H1 a)) {v : V} {xs : List D} (w : VR K m1 H1 v (.ftup xs)) : ∃ a vs, v = .ref a ∧ VRs K m1 H1 vs xs ∧ SqT K H1 a vs ∧ ∀ (m2 : List Addr) (H2 Hx : Hp), Ext m1 H1 m2 H2 → (∀ a o, H2 a = some o → Hx a = some o) → SqT K Hx a vs := by
  cases w with
  | @ftup a vs _ o hd h r => exact ⟨a, vs, rfl, r, SqT.rd (.inr ⟨o, h⟩), fun m2 H2 Hx e sup => SqT.rd (.inr ⟨o, sup _ _ (frz_ext e mu h)⟩)⟩
theorem yl_zip {a b : Addr} {vs ws : List V} {xs ys : List D} (mu : ∀ a ∈ m1, Mut (H1 a)) (ha : ∀ (m2 : List Addr) (H2 Hx : Hp), Ext m1 H1 m2 H2 → (∀ a o, H2 a = some o → Hx a = some o) → SqL K Hx a vs) (hb : ∀ (m2 : List Addr) (H2 Hx : Hp), Ext m1 H1 m2 H2 → (∀ a o, H2 a = some o → Hx a = some o) → SqL K Hx b ws)
    (r : VRs K m1 H1 vs xs) (r' : VRs K m1 H1 ws ys) : Ylds K (Itz K a b) m1 H1 ⟨zipD xs ys, fun _ => True⟩ := fun m2 H2 S2 Hx e x _ sup => by
  have h3 := ha m2 H2 Hx e sup
  have h4 := hb m2 H2 Hx e sup
  have r2 := r.ext e mu
  have r3 := r'.ext e mu
  refine ⟨fun i d hi => ?_, fun i hi => ⟨vs, ws, h3, h4, ?_⟩⟩
  · obtain ⟨y, z, hy, hz, rfl⟩ := zipD_get hi
    obtain ⟨v, hv, w⟩ := r2.getr hy
    obtain ⟨v2, hv2, w2⟩ := r3.getr hz
    refine ⟨⟨vs, ws, v, v2, h3, h4, hv, hv2⟩, fun z H' q => .inr ?_⟩
    obtain ⟨T, z1, z2, ez, hT, eH, q1, q2⟩ := q
    have e1 := q1 vs h3
    have e2 := q2 ws h4
    rw [hv] at e1
    rw [hv2] at e2
    cases e1
    cases e2
    exact ⟨T, [v, v2], _, hT, eH, ez, rfl, .cons w (.cons w2 .nil)⟩
  · have hi' : min xs.length ys.length ≤ i := by rw [← zipD_length]; exact hi
    rw [r.length, r'.length]
    omega
theorem yl_zipT {a b : Addr} {vs ws : List V} {xs ys : List D} (mu : ∀ a ∈ m1, Mut (H1 a)) (ha : ∀ (m2 : List Addr) (H2 Hx : Hp), Ext m1 H1 m2 H2 → (∀ a o, H2 a = some o → Hx a = some o) → SqT K Hx a vs) (hb : ∀ (m2 : List Addr) (H2 Hx : Hp), Ext m1 H1 m2 H2 → (∀ a o, H2 a = some o → Hx a = some o) → SqT K Hx b ws)
    (r : VRs K m1 H1 vs xs) (r' : VRs K m1 H1 ws ys) : Ylds K (RZ.ItzT K a b) m1 H1 ⟨zipD xs ys, fun _ => True⟩ := fun m2 H2 S2 Hx e x _ sup => by
  have h3 := ha m2 H2 Hx e sup
  have h4 := hb m2 H2 Hx e sup
  have r2 := r.ext e mu
  have r3 := r'.ext e mu
  refine ⟨fun i d hi => ?_, fun i hi => ⟨vs, ws, h3, h4, ?_⟩⟩
  · obtain ⟨y, z, hy, hz, rfl⟩ := zipD_get hi
    obtain ⟨v, hv, w⟩ := r2.getr hy
    obtain ⟨v2, hv2, w2⟩ := r3.getr hz
    refine ⟨⟨vs, ws, v, v2, h3, h4, hv, hv2⟩, fun z H' q => .inr ?_⟩
    obtain ⟨T, z1, z2, ez, hT, eH, q1, q2⟩ := q
    have e1 := q1 vs h3
    have e2 := q2 ws h4
    rw [hv] at e1
    rw [hv2] at e2
    cases e1
    cases e2
    exact ⟨T, [v, v2], _, hT, eH, ez, rfl, .cons w (.cons w2 .nil)⟩
  · have hi' : min xs.length ys.length ≤ i := by rw [← zipD_length]; exact hi
    rw [r.length, r'.length]
    omega
end
def zipOf : List D → Option (List D)
  | [.lst xs, .lst ys] => some (zipD xs ys)
  | [.tup xs, .tup ys] => some (zipD xs ys)
  | [.ftup xs, .tup ys] => some (zipD xs ys)
  | [.ftup xs, .ftup ys] => some (zipD xs ys)
  | _ => none
def lZip (t : LA) : LI := fun ρ S => (t ρ S).bind fun ds S1 => match zipOf ds with
  | some items => .ok ⟨items, fun _ => True⟩ S1
  | none => .bad
section
variable {X : Cx} {e e2 : Expr} {t : LA} {p pos tpos : Pos} {elts : List Expr} {kk : Nat}
theorem pil_zip (hg : Gl X "zip") (hm : X.mg "zip" = none) (ha : PAL X [e, e2] t)
    (hs : starEach [e, e2] X.env = (false, eval e X.env) :: starEach [e2] X.env := by rfl) (hpl : (backTo pos (starEach [e2] X.env)).any (·.1) = false := by rfl) :
    PIL X (.Tuple elts kk tpos) (.Call (.Name "zip" p) [e, e2] [] pos) (lZip t) := by
  refine ⟨fun pins s σ H Rr I ⟨m, ρ, S, x, er, hp, k⟩ => ?_⟩
  refine (RZ.pi_zipA (elts := elts) (kk := kk) (tpos := tpos) (p := p) (pos := pos) hg hm ha.pa hs hpl).run pins s σ H Rr I ⟨m, ρ, S, x, er, hope_seq hp, fun ds S1 q vs H1 m1 e1 x1 w => ?_⟩
  unfold lZip at hp
  rw [q, bind_ok] at hp
  cases hz : zipOf ds with
  | none => rw [hz] at hp; exact absurd rfl hp.1
  | some items =>
    have e0 : lZip t ρ S = .ok ⟨items, fun _ => True⟩ S1 := by unfold lZip; rw [q, bind_ok, hz]
    unfold zipOf at hz
    split at hz
    · cases hz
      obtain ⟨y, z, rfl, w1, w2⟩ := w.two
      obtain ⟨a, us, rfl, r1, h1, st1⟩ := sql_stays w1
      obtain ⟨b, ws, rfl, r2, h2, st2⟩ := sql_stays w2
      exact ⟨a, b, us, ws, rfl, .inl ⟨h1, h2, k _ S1 e0 _ H1 m1 e1 x1 (yl_zip x1.muts st1 st2 r1 r2)⟩⟩
    · cases hz
      obtain ⟨y, z, rfl, w1, w2⟩ := w.two
      obtain ⟨a, us, rfl, r1, h1, st1⟩ := sqt_stays x1.muts w1
      obtain ⟨b, ws, rfl, r2, h2, st2⟩ := sqt_stays x1.muts w2
      exact ⟨a, b, us, ws, rfl, .inr ⟨h1, h2, k _ S1 e0 _ H1 m1 e1 x1 (yl_zipT x1.muts st1 st2 r1 r2)⟩⟩
    · cases hz
      obtain ⟨y, z, rfl, w1, w2⟩ := w.two
      obtain ⟨a, us, rfl, r1, h1, st1⟩ := sqf_stays x1.muts w1
      obtain ⟨b, ws, rfl, r2, h2, st2⟩ := sqt_stays x1.muts w2
      exact ⟨a, b, us, ws, rfl, .inr ⟨h1, h2, k _ S1 e0 _ H1 m1 e1 x1 (yl_zipT x1.muts st1 st2 r1 r2)⟩⟩
    · cases hz
      obtain ⟨y, z, rfl, w1, w2⟩ := w.two
      obtain ⟨a, us, rfl, r1, h1, st1⟩ := sqf_stays x1.muts w1
      obtain ⟨b, ws, rfl, r2, h2, st2⟩ := sqf_stays x1.muts w2
      exact ⟨a, b, us, ws, rfl, .inr ⟨h1, h2, k _ S1 e0 _ H1 m1 e1 x1 (yl_zipT x1.muts st1 st2 r1 r2)⟩⟩
    · cases hz
/-! ### pairs of texts by < -/
def ltP (a b c d : Str) : Bool := if a = c then (if b = d then false else decide (b.cps.toList < d.cps.toList)) else decide (a.cps.toList < c.cps.toList)
def gLtP : G2 := g2T fun xs ys => match xs, ys with
  | [.str a, .str b], [.str c, .str d] => some (.bl (ltP a b c d))
  | _, _ => none
theorem rc_lt_str {A : Around} {s : Shared} (a b : Str) (t u : Tok) : Ob.RcOp .Lt A s (.str a t) (.str b u) (decide (a.cps.toList < b.cps.toList)) := fun _ _ _ _ h => by
  show wpAny _ _ (compareOp .Lt (.str a t) (.str b u)) _ _ _
  exact PyProof.Rows.lt_str h
theorem opl_ltP (hu : X.A.units + 64 < cLine) : OpL X (compareOp .Lt) gLtP := ⟨fun pins s σ H m S x y dx dy d v u I q rx ry ex ey e0 => by
  obtain ⟨xs, ys, e1, e2, e3⟩ := (show ∃ i j, vw S dx = .tup i ∧ vw S dy = .tup j ∧ _ from g2T_inv e0)
  split at e3
  · rename_i a b c d'
    cases e3
    obtain ⟨p, vs, rfl, h1, r1⟩ := vw_tup rx e1
    obtain ⟨p2, ws, rfl, h2, r2⟩ := vw_tup ry e2
    obtain rfl : v = Value.ref p := ex
    obtain rfl : u = Value.ref p2 := ey
    obtain ⟨v1, v2, rfl, w1, w2⟩ := r1.two
    obtain ⟨z1, z2, rfl, k1, k2⟩ := r2.two
    cases w1
    cases w2
    cases k1
    cases k2
    obtain ⟨its, rv, pp, hz⟩ := I.tuple (SqT.of h1)
    obtain ⟨its2, rv2, pp2, hz2⟩ := I.tuple (SqT.of h2)
    cases rv with
    | cons ra rr =>
      cases rr with
      | cons rb rn =>
        cases rn
        obtain ⟨ta, rfl⟩ := ra
        obtain ⟨tb, rfl⟩ := rb
        cases rv2 with
        | cons rc rr2 =>
          cases rr2 with
          | cons rd rn2 =>
            cases rn2
            obtain ⟨tc, rfl⟩ := rc
            obtain ⟨td, rfl⟩ := rd
            have R := Ob.RcOp.tuples_lt (A := X.A) (s := s) (e := fun j => if j = 0 then (a == c) else (b == d')) (r := fun j => if j = 0 then decide (a.cps.toList < c.cps.toList) else decide (b.cps.toList < d'.cps.toList)) pp pp2 (by omega)
              (fun j h1 h2 => by
                match j, h1 with
                | 0, _ => exact SeqAt.EqAt.str_str a ta c tc
                | 1, _ => exact SeqAt.EqAt.str_str b tb d' td
                | n + 2, h => simp at h; omega)
              (fun j h1 h2 _ => by
                match j, h1 with
                | 0, _ => exact rc_lt_str a c ta tc
                | 1, _ => exact rc_lt_str b d' tb td
                | n + 2, h => simp at h; omega)
            have e5 : Ob.lexAt (fun j => if j = 0 then (a == c) else (b == d')) (fun j => if j = 0 then decide (a.cps.toList < c.cps.toList) else decide (b.cps.toList < d'.cps.toList)) (decide ([Value.str a ta, Value.str b tb].toArray.size < [Value.str c tc, Value.str d' td].toArray.size)) 0 (min [Value.str a ta, Value.str b tb].toArray.size [Value.str c tc, Value.str d' td].toArray.size) = ltP a b c d' := by
              show (if (a == c) = true then (if (b == d') = true then decide ((2 : Nat) < 2) else decide (b.cps.toList < d'.cps.toList)) else decide (a.cps.toList < c.cps.toList)) = ltP a b c d'
              unfold ltP
              simp
            rw [e5] at R
            exact R X.prog X.w X.xe _ ⟨.bl (ltP a b c d'), H, m, I, rfl, Ext.refl, q, .bl _⟩
  · cases e3⟩
def gLt2 : G2 := fun S x y => ((gLtI S x y).or (gLtS S x y)).or (gLtP S x y)
theorem opl_lt2 (hu : X.A.units + 64 < cLine) : OpL X (compareOp .Lt) gLt2 := (opl_ltI.or opl_ltS).or (opl_ltP hu)
def gLe2 : G2 := fun S x y => (gLeI S x y).or (gLeS S x y)
theorem opl_le2 : OpL X (compareOp .LtE) gLe2 := opl_leI.or opl_leS
def gGt2 : G2 := fun S x y => (gGtI S x y).or (gGtS S x y)
theorem opl_gt2 : OpL X (compareOp .Gt) gGt2 := opl_gtI.or opl_gtS
end
end MP

/-! len(set(texts)) of any number of texts (the road of HandS.Strs, which serves one text at most) -/
namespace MP
open PySem PySem.Spec PyProof.Rows L2
/-- how many of the first i texts are met for the first time -/
def cntS (xs : List Str) : Nat → Nat
  | 0 => 0
  | i + 1 => if (xs.take i).any (· == xs.getD i Str.empty) = true then cntS xs i else cntS xs i + 1
theorem cntS_le (xs : List Str) : ∀ i, cntS xs i ≤ i
  | 0 => Nat.le_refl _
  | i + 1 => by
    have := cntS_le xs i
    unfold cntS
    split <;> omega
abbrev metS (xs : List Str) (i : Nat) : Str → Bool := fun k => (xs.take i).any (· == k)
theorem met_succ {xs : List Str} {i : Nat} (h : i < xs.length) (k : Str) : metS xs (i + 1) k = (metS xs i k || decide (k = xs.getD i Str.empty)) := by
  unfold metS
  rw [List.take_succ_eq_append_getElem h, List.any_append]
  have e : xs.getD i Str.empty = xs[i] := by simp [h]
  rw [e]
  by_cases q : k = xs[i]
  · subst q; simp
  · have : (xs[i] == k) = false := beq_eq_false_iff_ne.mpr fun z => q z.symm
    simp [this, q]
section
variable {P : Program} {w : World} {A : Around} {R : Result → Shared → Prop} {E : Value → Shared → Prop} {s : Shared}
theorem loopS {It : Addr} {fp wr : List Addr} {G : Array GenState → Array GenState → Prop} {n : Nat} {Pv : Nat → Value → Prop} {St : Nat → Shared → Prop} (W : WalksS P w A.in1 It fp wr G n Pv St) (a : Addr) (ha : a ∉ fp) (xs : List Str) (hn : xs.length = n) (hz : n ≤ 4000)
    (hv : ∀ i v, Pv i v → ∃ t, v = .str (xs.getD i Str.empty) t) : ∀ (k i : Nat) (s : Shared), n - i = k → i ≤ n → St i s → s.heap.SetOf (PySem.strKind P w) a (metS xs i) (cntS xs i) →
      (∀ s', Moved (a :: wr) G s s' → s'.heap.SetOf (PySem.strKind P w) a (metS xs n) (cntS xs n) → R (.ok (.ret .none)) s') →
      codeAny (model P w) A (.builtin "set.update.loop" ⟨[.ref a, .ref It], []⟩) R s := by
  have naw : a ∉ wr := fun z => ha (W.sub _ z)
  have sub : ∀ b ∈ wr, b ∈ a :: wr := fun b hb => List.mem_cons_of_mem _ hb
  have stay : ∀ {h h' : Heap} {T : Str → Bool} {c : Nat}, (∀ o, h.get? a = some o → h'.get? a = some o) → h.SetOf (PySem.strKind P w) a T c → h'.SetOf (PySem.strKind P w) a T c := fun {h h' T c} k ⟨o, es, ep, t, e, r⟩ => ⟨o, es, ep, t, k o e, r⟩
  intro k
  induction k with
  | zero =>
    intro i s e0 hi st hS hR
    obtain rfl : i = n := by omega
    refine codeAny_builtin PyProof.Rows.F.entry_set_update_loop ?_
    rw [Around.under_plainId PyProof.Rows.F.plain_set_update_loop _]
    show wpAny _ A.in1 (pyNext (.ref It) >>= _) _ _ s
    exact wpAny_bind (W.done s _ _ st fun s' mv => wpAny_pure (hR s' (mv.mono sub) (stay (fun o e => mv.heap a _ naw e) hS)))
  | succ k ih =>
    intro i s e0 hi st hS hR
    have lt : i < n := by omega
    refine codeAny_builtin PyProof.Rows.F.entry_set_update_loop ?_
    rw [Around.under_plainId PyProof.Rows.F.plain_set_update_loop _]
    show wpAny _ A.in1 (pyNext (.ref It) >>= _) _ _ s
    refine wpAny_bind (W.item i s _ _ lt st fun v s' pv st' mv => ?_)
    obtain ⟨t, rfl⟩ := hv i v pv
    have hS' := stay (fun o e => mv.heap a _ naw e) hS
    show wpAny _ A.in1 (holding [Value.str (xs.getD i Str.empty) t] (setAdd a (.str (xs.getD i Str.empty) t)) >>= _) _ _ s'
    refine wpAny_bind (wpAny_holding ?_)
    unfold setAdd
    refine wpAny_holding (wpAny_bind ((PySem.strKind P w).pyHash (k := xs.getD i Str.empty) (strKind_is _ _ _ _) ?_))
    have hc := cntS_le xs i
    refine wpAny_setAddHashed_of (knd := PySem.strKind P w) (s := { s' with toks := s'.toks + 1 }) (strKind_is _ _ _ _) rfl hS' (by unfold scanBound; omega) fun h' hb hS2 => ?_
    have hS3 : h'.SetOf (PySem.strKind P w) a (metS xs (i + 1)) (cntS xs (i + 1)) := SetOf_congr hS2 (fun k => (met_succ (by omega) k).symm) rfl
    refine wpAny_pure ⟨plainId_quiet PyProof.Rows.F.plain_set_update_loop _, ih (i + 1) _ (by omega) lt (W.frame _ s' _ _ st' (Nat.le_succ _) fun b hb' o e => ?_) hS3 fun s'' mv2 hS4 => ?_⟩
    · rw [hb.2 b fun z : b = a => ha (by rw [← z]; exact hb')]; exact e
    · refine hR s'' (Moved.trans W.gtrans ((mv.mono sub).then_heap (Nat.le_succ _) fun b o hb' e => ?_) mv2) hS4
      rw [hb.2 b fun z : b = a => hb' (by rw [z]; exact List.mem_cons_self)]; exact e
set_option maxHeartbeats 3200000 in
theorem set_texts {l : Addr} {vs : Array Value} {xs : List Str} {Q : Value → Shared → Prop} (hd : A.handled = none) (hl : s.heap.IsList l vs) (hx : StrsAre vs.toList xs) (hz : xs.length ≤ 4000)
    (q : ∀ (h' : Heap) (tk : Nat), h'.SetOf (PySem.strKind P w) s.heap.objs.size (metS xs vs.size) (cntS xs vs.size) → (∀ b o, b < s.heap.objs.size → s.heap.get? b = some o → h'.get? b = some o) → Q (.ref s.heap.objs.size) { s with heap := h', toks := tk }) :
    wpAny (model P w) A (call (.type "set") [.ref l]) Q E s := by
  -- the new, empty set
  obtain ⟨N, hN⟩ : ∃ N : Bool → Heap, N = fun led => s.heap.push { cls := .type "set", dict := none, data := .set #[] 0 (.fresh 0 0 led) } := ⟨_, rfl⟩
  obtain ⟨c, tl, mro⟩ := PySem.F.called_set.mro
  have f1 := PySem.F.called_set.made
  have f2 := PySem.F.called_set.sub
  have f3 := PySem.F.called_set.notType
  have f4 := PySem.F.called_set.canCreate
  have f5 := PySem.F.typeCall_set_1 (.ref l)
  refine wpAny_call (codeAny_of_tree ?_)
  show wpAny _ _ (callAny (.type "set") _) _ _ _
  refine wpAny_pure ⟨Code.quiet_builtin _ (by decide +kernel), codeAny_builtin PySem.F.entry_type_call ?_⟩
  rw [Around.under_plain (weight_type_call_type "set" [.ref l] []) rfl]
  repeat (any_goals (first | assumption | wp_step))
  refine codeAny_mono (code_set_new_1 (.ref l) (E := E) (Q₁ := fun u s1 => ∃ led : Bool, u = .ref s.heap.objs.size ∧ s1 = { s with heap := s.heap.push { cls := .type "set", dict := none, data := .set #[] 0 (.fresh 0 0 led) } }) fun led => ⟨led, rfl, rfl⟩) fun r s1 hr => ?_
  rcases r with e | (_ | _ | _ | u)
  · exact hr
  · exact hr.elim
  · exact hr.elim
  · exact hr.elim
  obtain ⟨led, rfl, rfl⟩ := hr
  have at0 : (s.heap.push { cls := .type "set", dict := none, data := .set #[] 0 (.fresh 0 0 led) }).get? s.heap.objs.size = some { cls := .type "set", dict := none, data := .set #[] 0 (.fresh 0 0 led) } := Heap.get?_push_size _ rfl
  have ty0 : Shared.TypeIs { s with heap := s.heap.push { cls := .type "set", dict := none, data := .set #[] 0 (.fresh 0 0 led) } } (.ref s.heap.objs.size) "set" := ⟨_, at0, rfl⟩
  have g1 := PySem.F.called_set.init.lookup
  have g2 := PySem.F.called_set.init.bind (.ref s.heap.objs.size)
  repeat (any_goals (first | assumption | wp_step))
  refine codeAny_mono (codeAny_call_builtin (R := wants (fun r s2 => r = .none ∧ ∃ h' tk, s2 = { s with heap := h', toks := tk } ∧ h'.SetOf (PySem.strKind P w) s.heap.objs.size (metS xs vs.size) (cntS xs vs.size) ∧
    (∀ b o, b < s.heap.objs.size → s.heap.get? b = some o → h'.get? b = some o)) E) PySem.F.called_set.init.plain PySem.F.entry_set_init (check_set_init_1 ty0 ?_)) fun r2 s2 hr2 => ?_
  · obtain ⟨⟨lc, ld, lda, lsl⟩, el, ec, ln, ed⟩ := hl
    simp only at ec ed
    subst ec
    subst ed
    have hlt : l < s.heap.objs.size := Heap.lt_size el
    have el2 : (s.heap.push { cls := .type "set", dict := none, data := .set #[] 0 (.fresh 0 0 led) }).get? l = some { cls := .type "list", dict := ld, data := .seq vs ln, slots := lsl } := Heap.get?_push_of_some _ el
    have hl1 : (s.heap.push { cls := .type "set", dict := none, data := .set #[] 0 (.fresh 0 0 led) }).IsList l vs := ⟨_, el2, rfl, ln, rfl⟩
    have k1 := PySem.F.sub_list_set
    have k2 := PySem.F.sub_list_frozenset
    have k3 : (Value.type "list" == Value.type "dict") = false := by decide
    unfold Builtin.«set.__init__» noKeywords Builtin.Frozenset.updateFrom
    generalize hPI : pyIter = PI
    wp_walk
    subst hPI
    refine wpAny_pyIter_list hl1 (wpAny_bind (wpAny_runValue ?_))
    have hh3 : A.in1.in1.in1.handled = none := by simp [hd]
    have n1 : l ≠ (s.heap.push { cls := .type "set", dict := none, data := .set #[] 0 (.fresh 0 0 led) }).objs.size := by
      rw [Heap.size_push]; exact Nat.ne_of_lt (Nat.lt_succ_of_lt hlt)
    have n2 : s.heap.objs.size ∉ [(s.heap.push { cls := .type "set", dict := none, data := .set #[] 0 (.fresh 0 0 led) }).objs.size, l] := by
      rw [Heap.size_push]
      simp only [List.mem_cons, List.not_mem_nil, or_false, not_or]
      exact ⟨Nat.ne_of_lt (Nat.lt_succ_self _), Nat.ne_of_gt hlt⟩
    have hsz : xs.length = vs.size := by rw [← StrsAre.len_eq hx, Array.length_toList]
    refine loopS ((Walks.list hh3 _ l n1 vs).toS) s.heap.objs.size n2 xs hsz (by rw [← hsz]; exact hz) (fun i v hv => SS.strs_at hx i v (by rw [Array.getElem?_toList]; exact hv)) (vs.size - 0) 0 _ (by omega) (Nat.zero_le _) ⟨⟨_, Heap.get?_push_size _ rfl, rfl, rfl⟩, (hl1.push _)⟩ ?_ fun s' mv hS => ?_
    · exact SetOf_congr ((setObjOf_fresh (knd := PySem.strKind P w) led).setOf (Heap.get?_push_of_some _ at0) (by unfold scanBound; omega)) (fun _ => rfl) rfl
    · obtain ⟨h', g', d', tk', os'⟩ := s'
      have e1 : g' = s.gens := mv.gens
      have e2 : d' = s.drawn := mv.drawn
      have e3 : os' = s.os := mv.os
      subst e1
      subst e2
      subst e3
      show wpAny _ _ _ _ _ _
      refine wpAny_pure ?_
      show wpAny _ _ (ret Value.none) _ _ _
      refine wpAny_pure ⟨rfl, h', tk', rfl, hS, fun b o hb e => mv.heap b o ?_ (Heap.get?_push_of_some _ (Heap.get?_push_of_some _ e))⟩
      rw [Heap.size_push]
      simp only [List.mem_cons, List.not_mem_nil, or_false, not_or]
      exact ⟨Nat.ne_of_lt hb, Nat.ne_of_lt (Nat.lt_succ_of_lt hb)⟩
  · rcases r2 with e | (_ | _ | _ | u)
    · exact hr2
    · exact hr2.elim
    · exact hr2.elim
    · exact hr2.elim
    obtain ⟨rfl, h', tk, rfl, hS, hk⟩ := hr2
    repeat (any_goals (first | assumption | wp_step))
    exact q _ _ hS hk
end
/-- len(set(a list of texts)) -/
def gLenSet : GC := fun S ds => match ds with
  | [d] => match vw S d with
    | .lst l => match strsD l with
      | some ys => if ys.length ≤ 4000 then some (.int (cntS ys ys.length : Int)) else none
      | none => none
    | _ => none
  | _ => none
theorem pel_lenSet {X : Cx} {a : Expr} {t : LA} {p p2 q pos : Pos} (hc : X.calm = true) (hg : Gl X "len") (hm : X.mg "len" = none) (hg2 : Gl X "set") (hm2 : X.mg "set" = none) (ha : PAL X [a] t)
    (na : starEach [a] X.env = (false, eval a X.env) :: starEach [] X.env := by rfl) : PEL X (.Call (.Name "len" p) [.Call (.Name "set" p2) [a] [] q] [] pos) (lCallB gLenSet t) := by
  refine ⟨fun pins s σ H m ρ S I x r hp => ?_⟩
  refine Call_ (ld_blt I hg hm boot_len ?_)
  refine PyProof.Rows.callWith_builtin1 (PyProof.Rows.args_cons ?_ rfl) rfl rfl
  refine Call_ (ld_blt I hg2 hm2 boot_set ?_)
  refine PyProof.Rows.callWith_type1 (run_seqA ha I x r hp fun ds S1 q1 vs us s1 H1 m1 I1 rv e1 x1 w1 r1 hp1 => ?_) na rfl
  obtain ⟨d, q2⟩ := lift_ok hp1
  have e0 : lCallB gLenSet t ρ S = .ok d S1 := by unfold lCallB; rw [q1, bind_ok, q2]; rfl
  rw [e0]
  unfold gLenSet at q2
  split at q2
  · split at q2
    · rename_i l hl
      split at q2
      · rename_i ys hs
        split at q2
        · rename_i hz
          cases q2
          obtain ⟨v, rfl, w⟩ := w1.one
          have he := strsD_eq hs
          subst he
          obtain ⟨b, ws, rfl, h1, r2⟩ := vw_lst x1 w hl
          have hv := vrs_strs r2
          subst hv
          rw [Vals.ref1 rv]
          obtain ⟨its, rv2, pl, hz2⟩ := I1.list h1
          have hlen : its.toArray.size = ys.length := by rw [List.size_toArray, ← rv2.length, List.length_map]
          refine set_texts (I1.ok.hd hc) pl.isList (by simpa using strs_of_vals rv2) hz fun h' tk hS hk => ?_
          refine PyProof.Rows.args_nil ?_
          rw [hlen] at hS
          obtain ⟨o, es, ep, t', ho, hex, hd, _, _, hb, hf, hn⟩ := hS
          have I2 : Inv X pins σ H1 { s1 with heap := h', toks := tk } := I1.kept fun b o e => hk b o (Heap.lt_size e) e
          exact call_len_set ho hex hd hf (by unfold scanBound at hb; omega) ((vpr_of ⟨.int (cntS ys ys.length : Int), H1, m1, I2.tok _, ⟨_, by rw [hn]⟩, Ext.refl, x1, .int _⟩).left e1)
        · cases q2
      · cases q2
    · cases q2
  · cases q2
end MP

/-! x[::-1], x[a:b] * k, a, b, c = .., isinstance(e, (C, ..)) of an exception -/
namespace MP
open PySem PySem.Spec PyProof.Rows L2
theorem VRs.reverse {K : PySem.W.Frag} {m : List Addr} {H : Hp} : ∀ {vs : List V} {ds : List D}, VRs K m H vs ds → VRs K m H vs.reverse ds.reverse
  | _, _, .nil => .nil
  | _, _, .cons h r => by
    rw [List.reverse_cons, List.reverse_cons]
    exact r.reverse.append (.cons h .nil)
theorem VRs.rep {K : PySem.W.Frag} {m : List Addr} {H : Hp} {vs : List V} {ds : List D} (r : VRs K m H vs ds) : ∀ n : Nat, VRs K m H (List.replicate n vs).flatten (List.replicate n ds).flatten
  | 0 => .nil
  | n + 1 => by
    rw [List.replicate_succ, List.replicate_succ, List.flatten_cons, List.flatten_cons]
    exact r.append (r.rep n)
/-- a text backwards, as the model says it -/
def revS (z : Str) : Str := ⟨((Builtin.Str.strSliceIndices none none (-1) z.length).filterMap (z.cps[·]?)).toArray⟩
def gRev (S : Sto) (d : D) : Option D := match vw S d with
  | .lst xs => some (.lst xs.reverse)
  | .str z => if (revS z).length ≤ sizeLine then some (.str (revS z)) else none
  | _ => none
section
variable {X : Cx} {e b : Expr} {le lb : LE} {k : Nat} {p1 p2 p3 pos : Pos}
/-! ### a, b, c = .. -/
def lPar3 (i j l : Nat) (t : LA) : LS := fun ρ S => liftX ρ (t ρ S) fun ds S1 => match ds with
  | [a, b, c] => .ok (.nx (((ρ.set i (some a)).set j (some b)).set l (some c))) S1
  | _ => .bad
/-! ### isinstance of an exception and a tuple of classes -/
open Classical in
noncomputable def tabT (K : PySem.W.Frag) (cs : List Value) : Addr → Option Bool := fun D => if ExcC K D then PySem.W.kitAny K (.ref D) cs else none
structure IsTOk (K : PySem.W.Frag) (cs : List Value) (tab : Addr → Option Bool) : Prop where
  one : ∀ C b, tab C = some b → PySem.W.kitAny K (.ref C) cs = some b ∧ ExcC K C
def refsV (Cs : List Addr) : List V := Cs.map V.ref
def refsU (Cs : List Addr) : List Value := Cs.map Value.ref
end
end MP

/-! a list's slice times a number -/
namespace MP
open PySem PySem.Spec PyProof.Rows L2
def lSlMul (la : LE) (lo hi : LO) (lb : LE) : LE := fun ρ S => (la ρ S).bind fun d S1 => (lo ρ S1).bind fun i S2 => (hi ρ S2).bind fun j S3 => match vw S3 d with
  | .lst xs => (lb ρ S3).bind fun y S4 => match y with
    | .int k => if 0 ≤ k ∧ k ≤ 1000 ∧ (cutD xs i j).length * k.toNat ≤ sizeLine then .ok (.lst (List.replicate k.toNat (cutD xs i j)).flatten) S4 else .bad
    | _ => .bad
  | _ => .bad
section
variable {X : Cx} {e b : Expr} {l lb : LE} {pos pos2 : Pos}
end
end MP

/-! small things -/
namespace MP
open PySem PySem.Spec PyProof.Rows L2
def lBad : LS := fun _ _ => .bad
/-- a statement that is never reached -/
theorem psl_bad {X : Cx} {st : Stmt} : PSL X st lBad := ⟨fun pins s σ H D I ⟨m, ρ, S, x, er, hl, h⟩ => by
  obtain ⟨fl, S', q⟩ := h.ok
  cases q⟩
def tabStr : Tab
  | .str => some true
  | _ => none
def tabTup : Tab
  | .tup => some true
  | _ => none
/-! ### how the words compute -/
theorem add2_ii {S : Sto} {i j : Int} : gAdd2 S (.int i) (.int j) = some (.int (i + j)) := rfl
theorem add2_ss {S : Sto} {i j : Str} (h : i.length + j.length ≤ sizeLine) : gAdd2 S (.str i) (.str j) = some (.str (i ++ j)) := by
  show (((if i.length + j.length ≤ sizeLine then some (D.str (i ++ j)) else none).or (gCat S (.str i) (.str j))).or _) = _
  rw [if_pos h]; rfl
theorem catL {S : Sto} {a b : List D} {x y : D} {c : List D} (e1 : vw S x = .lst a) (e2 : vw S y = .lst b) (h : a ++ b = c) (hz : c.length ≤ 100000) (n1 : gAdd S x y = none := by rfl) : gAdd2 S x y = some (.lst c) := by
  unfold gAdd2 gCatL g2L
  rw [n1, e1, e2]
  show (if a.length + b.length ≤ sizeLine then some (D.lst (a ++ b)) else none) = _
  rw [if_pos (by rw [← List.length_append, h]; exact Nat.le_trans hz (by decide)), h]
theorem ife_ff {t : LT} {la lb : LE} {ρ : Ev} {S S1 : Sto} {r : R D} (h : t ρ S = .ok false S1) (h2 : lb ρ S1 = r) : lIf t la lb ρ S = r := by
  unfold lIf; rw [h, bind_ok, if_neg Bool.false_ne_true]; exact h2
theorem andv_tt {la lb : LE} {ρ : Ev} {S S1 : Sto} {d : D} {r : R D} (h : la ρ S = .ok d S1) (ht : truth S1 d = some true) (h2 : lb ρ S1 = r) : lAndV la lb ρ S = r := by
  unfold lAndV; rw [h, bind_ok, ht]; exact h2
theorem andv_ff {la lb : LE} {ρ : Ev} {S S1 : Sto} {d : D} (h : la ρ S = .ok d S1) (ht : truth S1 d = some false) : lAndV la lb ρ S = .ok d S1 := by
  unfold lAndV; rw [h, bind_ok, ht]; rfl
theorem orv_tt {la lb : LE} {ρ : Ev} {S S1 : Sto} {d : D} (h : la ρ S = .ok d S1) (ht : truth S1 d = some true) : lOrV la lb ρ S = .ok d S1 := by
  unfold lOrV; rw [h, bind_ok, ht]; rfl
theorem orv_ff {la lb : LE} {ρ : Ev} {S S1 : Sto} {d : D} {r : R D} (h : la ρ S = .ok d S1) (ht : truth S1 d = some false) (h2 : lb ρ S1 = r) : lOrV la lb ρ S = r := by
  unfold lOrV; rw [h, bind_ok, ht]; exact h2
theorem asg_ok {g : GT} {l : LE} {ρ ρ1 : Ev} {S S1 : Sto} {d : D} (h : l ρ S = .ok d S1) (hg : g d ρ = some ρ1) : lAsg g l ρ S = .ok (.nx ρ1) S1 := by
  unfold lAsg; rw [h]
  show (match g d ρ with | some ρ1 => R.ok (Fl.nx ρ1) S1 | none => .bad) = _
  rw [hg]
theorem chain_tt {g g' : G2} {la lb lc : LE} {ρ : Ev} {S S1 S2 S3 : Sto} {x y z d : D} (h1 : la ρ S = .ok x S1) (h2 : lb ρ S1 = .ok y S2) (h3 : g S2 x y = some (.bl true)) (h4 : lc ρ S2 = .ok z S3) (h5 : g' S3 y z = some d) : lChain g g' la lb lc ρ S = .ok d S3 := by
  unfold lChain; rw [h1, bind_ok, h2, bind_ok, h3]
  show ((lc ρ S2).bind fun z S4 => lift1 (g' S4 y z) S4) = _
  rw [h4, bind_ok, h5]; rfl
theorem chain_ff {g g' : G2} {la lb lc : LE} {ρ : Ev} {S S1 S2 : Sto} {x y : D} (h1 : la ρ S = .ok x S1) (h2 : lb ρ S1 = .ok y S2) (h3 : g S2 x y = some (.bl false)) : lChain g g' la lb lc ρ S = .ok (.bl false) S2 := by
  unfold lChain; rw [h1, bind_ok, h2, bind_ok, h3]; rfl
theorem slice_ok {g : Sto → D → Option Int → Option Int → Option D} {la : LE} {lo hi : LO} {ρ : Ev} {S S1 S2 S3 : Sto} {d e : D} {i j : Option Int} (h1 : la ρ S = .ok d S1) (h2 : lo ρ S1 = .ok i S2) (h3 : hi ρ S2 = .ok j S3) (h4 : g S3 d i j = some e) : lSlice g la lo hi ρ S = .ok e S3 := by
  unfold lSlice; rw [h1, bind_ok, h2, bind_ok, h3, bind_ok, h4]; rfl
theorem osome_ok {l : LE} {ρ : Ev} {S S1 : Sto} {i : Int} (h : l ρ S = .ok (.int i) S1) : oSome l ρ S = .ok (some i) S1 := by
  unfold oSome; rw [h]; rfl
theorem listN_ok {t : LA} {ρ : Ev} {S S1 : Sto} {ds ys : List D} (h : t ρ S = .ok ds S1) (h2 : gItems S1 ds = some ys) : lListN t ρ S = .ok (.ref S1.length) (S1 ++ [.lst ys]) := by
  unfold lListN; rw [h, bind_ok, h2]
theorem zip_ok {t : LA} {ρ : Ev} {S S1 : Sto} {ds items : List D} (h : t ρ S = .ok ds S1) (h2 : zipOf ds = some items) : lZip t ρ S = .ok ⟨items, fun _ => True⟩ S1 := by
  unfold lZip; rw [h, bind_ok, h2]
/-- a comprehension with a test -/
theorem comp_skip {ρ0 ρ1 : Ev} {chk : Sto → Prop} {g : GT} {tt : LT} {te : LE} {d : D} {ds : List D} {S S1 : Sto} {r : R (List D)} (hc : chk S) (hg : g d ρ0 = some ρ1) (ht : tt ρ1 S = .ok false S1) (h2 : compG chk g tt te ρ0 ds S1 = r) : compG chk g tt te ρ0 (d :: ds) S = r := by
  unfold compG; rw [if_pos hc, hg]; show (noex (tt ρ1 S)).bind _ = _; rw [ht]; exact h2
theorem comp_take {ρ0 ρ1 : Ev} {chk : Sto → Prop} {g : GT} {tt : LT} {te : LE} {d y : D} {ds ys : List D} {S S1 S2 S3 : Sto} (hc : chk S) (hg : g d ρ0 = some ρ1) (ht : tt ρ1 S = .ok true S1) (he : te ρ1 S1 = .ok y S2) (h2 : compG chk g tt te ρ0 ds S2 = .ok ys S3) : compG chk g tt te ρ0 (d :: ds) S = .ok (y :: ys) S3 := by
  unfold compG; rw [if_pos hc, hg]; show (noex (tt ρ1 S)).bind _ = _; rw [ht]
  show (noex (te ρ1 S1)).bind _ = _
  rw [he]
  show (compG chk g tt te ρ0 ds S2).bind _ = _
  rw [h2]; rfl
/-- over any items, some kept: the store stays -/
theorem comp_filter {α : Type} {chk : Sto → Prop} {g : GT} {tt : LT} {te : LE} {ρ0 : Ev} {S : Sto} {enc f : α → D} {p : α → Bool} (hc : chk S) : ∀ xs : List α, (∀ x ∈ xs, ∃ ρ1, g (enc x) ρ0 = some ρ1 ∧ tt ρ1 S = .ok (p x) S ∧ (p x = true → te ρ1 S = .ok (f x) S)) →
    compG chk g tt te ρ0 (xs.map enc) S = .ok ((xs.filter p).map f) S
  | [], _ => comp_end hc
  | x :: xs, h => by
    obtain ⟨ρ1, h1, h2, h3⟩ := h x (by simp)
    have ih := comp_filter (f := f) hc xs fun y hy => h y (by simp [hy])
    cases q : p x with
    | true =>
      rw [q] at h2
      rw [List.filter_cons_of_pos q, List.map_cons, List.map_cons]
      exact comp_take hc h1 h2 (h3 q) ih
    | false =>
      rw [q] at h2
      rw [List.filter_cons_of_neg (by rw [q]; exact Bool.false_ne_true), List.map_cons]
      exact comp_skip hc h1 h2 ih
theorem comp_map {α : Type} {chk : Sto → Prop} {g : GT} {te : LE} {ρ0 : Ev} {S : Sto} {enc f : α → D} (hc : chk S) (xs : List α) (h : ∀ x ∈ xs, ∃ ρ1, g (enc x) ρ0 = some ρ1 ∧ te ρ1 S = .ok (f x) S) : compG chk g tYesL te ρ0 (xs.map enc) S = .ok (xs.map f) S := by
  have := comp_filter (p := fun _ => true) (tt := tYesL) (f := f) hc xs fun x hx => by
    obtain ⟨ρ1, h1, h2⟩ := h x hx
    exact ⟨ρ1, h1, rfl, fun _ => h2⟩
  rw [List.filter_eq_self.mpr (fun _ _ => rfl)] at this
  exact this
theorem bls_map {α : Type} (f : α → Bool) : ∀ xs : List α, blsOf (xs.map fun x => D.bl (f x)) = some (xs.map f)
  | [] => rfl
  | x :: xs => by simp [blsOf, bls_map f xs]
theorem all_ok {α : Type} {S : Sto} (f : α → Bool) (xs : List α) : gAll S [.lst (xs.map fun x => D.bl (f x))] = some (.bl (xs.all f)) := by
  show (blsOf (xs.map fun x => D.bl (f x))).map (fun bs => D.bl (bs.all id)) = _
  rw [bls_map]
  simp [List.all_map]
theorem comp_okL {li : LI} {ix : List Nat} {g : GT} {tt : LT} {te : LE} {ρ : Ev} {S S1 S2 : Sto} {it : Its'} {ys : List D} (h : li ρ S = .ok it S1) (hl : it.items.length ≤ 100000) (h2 : compG it.chk g tt te (wipeE ρ ix) it.items S1 = .ok ys S2) : lComp li ix g tt te ρ S = .ok (.lst ys) S2 := by
  unfold lComp compL
  rw [h, bind_ok, if_pos (Nat.le_trans hl (by decide)), h2, bind_ok]
theorem vw_ref {S : Sto} {j : Nat} {xs : List D} (h : S[j]? = some (.lst xs)) : vw S (.ref j) = .lst xs := by unfold vw; dsimp only; rw [h]
theorem set_self {S : Sto} {j : Nat} {o o' : O} (h : S[j]? = some o) : (S.set j o')[j]? = some o' := List.getElem?_set_self (List.getElem?_eq_some_iff.mp h).1
theorem sml {c : Int} (a : 0 ≤ c) (b : c < 10 ^ 100) : Sm c := Sm.of a b (by decide +kernel)
end MP

/-! sets of texts with a table that can be walked: sorted(set(texts)) (the road that HandS.Set takes for ints) -/
namespace MP
open PySem PySem.Spec PyProof.Rows L2
def keyS (e : Int × Value) : Str := match e.2 with
  | .str k _ => k
  | _ => Str.empty
def GoodS (w : World) (e : Int × Value) : Prop := ∃ k tk, e.2 = Value.str k tk ∧ e.1 = hashStr w k
/-- the members, their number; the table rises -/
structure SetS (w : World) (h : Heap) (a : Addr) (T : Str → Bool) (n : Nat) : Prop where
  ex : ∃ o es ep t, h.get? a = some o ∧ o.ExactSet ∧ o.data = .set es ep t ∧ (∀ e ∈ es.toList, GoodS w e) ∧ (es.toList.map keyS).Nodup ∧ (∀ k, T k = true ↔ k ∈ es.toList.map keyS) ∧ es.size < scanBound ∧ t.fits es.size = true ∧ es.size = n ∧ Ris t.place.toList ∧ (w.params.followText "set-order" = true ∨ t.led = true)
section
variable {P : Program} {w : World} {h h' : Heap} {a : Addr} {T : Str → Bool} {n : Nat}
theorem goodS_is {e : Int × Value} (g : GoodS w e) (k : Str) : (PySem.strKind P w).is k e.2 = true ↔ keyS e = k := by
  obtain ⟨k0, tk, h1, _⟩ := g
  unfold keyS
  rw [h1]
  constructor
  · intro q
    obtain ⟨t, ht⟩ := Value.isStrOf_shape (show Value.isStrOf k (Value.str k0 tk) = true from q)
    injection ht
  · rintro rfl
    exact strKind_is P w k0 tk
theorem goodS_elems {l : List (Int × Value)} (g : ∀ e ∈ l, GoodS w e) : ElemsOf (PySem.strKind P w) l := fun e he => by
  obtain ⟨k, tk, h1, h2⟩ := g e he
  exact ⟨⟨k, by rw [h1]; exact strKind_is P w k tk, h2⟩, by rw [h1]; rfl⟩
theorem goodS_mem {l : List (Int × Value)} (g : ∀ e ∈ l, GoodS w e) (k : Str) : k ∈ l.map keyS ↔ ∃ e ∈ l, (PySem.strKind P w).is k e.2 = true := by
  rw [List.mem_map]
  exact ⟨fun ⟨e, he, q⟩ => ⟨e, he, (goodS_is (g e he) k).2 q⟩, fun ⟨e, he, q⟩ => ⟨e, he, (goodS_is (g e he) k).1 q⟩⟩
theorem SetS.keep (R : SetS w h a T n) (k : ∀ o, h.get? a = some o → h'.get? a = some o) : SetS w h' a T n := by
  obtain ⟨o, es, ep, t, ho, r⟩ := R.ex
  exact ⟨o, es, ep, t, k o ho, r⟩
theorem SetS.congr {T' : Str → Bool} {n' : Nat} (R : SetS w h a T n) (e : ∀ k, T' k = T k) (en : n' = n) : SetS w h a T' n' := by
  have q : T' = T := funext e
  rw [q, en]; exact R
end
section
variable {P : Program} {w : World} {A : Around} {E : Value → Shared → Prop} {s : Shared} {a : Addr} {T : Str → Bool} {n : Nat}
/-- the end of an insertion: stored, and laid anew where it has grown full -/
theorem setS_tail {g : Bool → Sem Unit} (hg : ∀ (b : Bool) (s₁ : Shared) (Q' : Unit → Shared → Prop), Q' () s₁ → wpAny (model P w) A (g b) Q' E s₁)
    {o : Obj} {es : Array (Int × Value)} {ep : Nat} {t : SetTable} (ho : s.heap.get? a = some o) (hex : o.ExactSet) (hd : o.data = .set es ep t)
    {es1 : Array (Int × Value)} {t2 : SetTable} {T' : Str → Bool} (g1 : ∀ e ∈ es1.toList, GoodS w e) (nd1 : (es1.toList.map keyS).Nodup) (m1 : ∀ k, T' k = true ↔ k ∈ es1.toList.map keyS)
    (hb1 : es1.size < scanBound) (hf2 : t2.fits es1.size = true) (hr : Ris t2.place.toList) (hl : w.params.followText "set-order" = true ∨ t2.led = true) {wasDummy : Bool} {R : Option Bool → Shared → Prop}
    (hR : ∀ h', Heap.SameBut a s.heap h' → SetS w h' a T' es1.size → R (some true) { s with heap := h' }) :
    wpAny (model P w) A (do
        storeSet a es1 t2
        if (!wasDummy && t2.tooFull) = true then do
            g (relayAll t2 es1 (SetTable.grown es1.size)).2.2
            storeSet a (relayAll t2 es1 (SetTable.grown es1.size)).1 (relayAll t2 es1 (SetTable.grown es1.size)).2.1
            pure (some true)
          else pure (some true)) R E s := by
  refine wpAny_bind (wpAny_storeSet_of ho hd ?_ (fits_of_scanBound hb1))
  have ho1 := store_at (es' := es1) (t' := t2) ho hd
  have sb1 := Heap.SameBut.update s.heap a (Obj.putSet es1 t2)
  by_cases full : (!wasDummy && t2.tooFull) = true
  · rw [if_pos full]
    have pm := relayAll_perm t2 es1 (SetTable.grown es1.size)
    have f3 := relayAll_fits t2 es1 (SetTable.grown es1.size)
    have r3 := relayAll_ris t2 es1 (SetTable.grown es1.size)
    have l3 := relayAll_led t2 es1 (SetTable.grown es1.size)
    generalize relayAll t2 es1 (SetTable.grown es1.size) = Z at pm f3 r3 l3 ⊢
    obtain ⟨es2, t3, gave⟩ := Z
    dsimp only at pm f3 r3 l3 ⊢
    have z : es2.size = es1.size := by rw [← Array.length_toList, pm.length_eq, Array.length_toList]
    have hb2 : es2.size < scanBound := by rw [z]; exact hb1
    refine wpAny_bind (hg _ _ _ (wpAny_bind (wpAny_storeSet_of ho1 rfl ?_ (fits_of_scanBound hb2))))
    exact wpAny_pure (hR _ (sb1.trans (Heap.SameBut.update _ a _)) ⟨_, es2, _, t3, store_at (es' := es2) (t' := t3) ho1 rfl, hex, rfl, fun e he => g1 e (pm.mem_iff.mp he), (pm.map keyS).nodup_iff.mpr nd1, fun k => (m1 k).trans (pm.map keyS).mem_iff.symm, hb2, f3, z, r3, hl.imp id fun q => by rw [l3]; exact q⟩)
  · rw [if_neg full]
    exact wpAny_pure (hR _ sb1 ⟨_, es1, _, t2, ho1, hex, rfl, g1, nd1, m1, hb1, hf2, rfl, hr, hl⟩)
theorem setS_add {k : Str} {tk : Tok} {Q : Bool → Shared → Prop} (R : SetS w s.heap a T n) (room : n + 1 < scanBound)
    (hQ : ∀ h', Heap.SameBut a s.heap h' → SetS w h' a (fun j => T j || decide (j = k)) (if T k = true then n else n + 1) → Q (!T k) { s with heap := h' }) :
    wpAny (model P w) A (setAddHashed a (.str k tk) ((PySem.strKind P w).hash k)) Q E s := by
  obtain ⟨o, es, ep, t, ho, hex, hd, g, nd, hm, hb, hf, hn, hr, hl⟩ := R.ex
  have hkey : (PySem.strKind P w).is k (.str k tk) = true := strKind_is P w k tk
  have hsc : (Value.str k tk).scannable = true := rfl
  have hel : ElemsOf (PySem.strKind P w) es.toList := goodS_elems g
  unfold setAddHashed setAddHashedIn
  refine wpAny_holding (wpAny_bind (wpAny_setState_of ho hd hf ?_))
  dsimp only
  rw [byScan_of hsc hb hel]
  simp only [↓reduceIte]
  unfold setAddByScan
  refine wpAny_bind (wpAny_bind (wpAny_rule (wpAny_bind (wpAny_setScan_of hkey ho hd hf hel ?_))))
  cases hfi : List.findIdx? (fun e => (PySem.strKind P w).is k e.2) es.toList with
  | some j =>
    dsimp only
    obtain ⟨hj, pj, _⟩ := List.findIdx?_eq_some_iff_getElem.mp hfi
    have hT : T k = true := (hm k).2 ((goodS_mem (P := P) g k).2 ⟨_, List.getElem_mem hj, pj⟩)
    refine wpAny_pure (wpAny_pure ?_)
    have q := hQ s.heap (Heap.SameBut.refl a s.heap) ⟨o, es, ep, t, ho, hex, hd, g, nd, fun i => by
      rw [Bool.or_eq_true, decide_eq_true_eq, ← hm i]
      exact ⟨fun z => z.elim id (fun e => e ▸ hT), .inl⟩, hb, hf, by rw [if_pos hT]; exact hn, hr, hl⟩
    rw [hT] at q
    exact q
  | none =>
    dsimp only
    have hnk : k ∉ es.toList.map keyS := fun z => by
      obtain ⟨e, he, q⟩ := (goodS_mem (P := P) g k).1 z
      have c := List.findIdx?_eq_none_iff.mp hfi e he
      rw [q] at c
      cases c
    have hT : T k = false := by
      cases q : T k with
      | false => rfl
      | true => exact absurd ((hm k).1 q) hnk
    have gave_ : ∀ (b : Bool) {s₁ : Shared} {Q' : Unit → Shared → Prop}, Q' () s₁ → wpAny (model P w) A (match b with | true => rule "set.scan.the-table-gave-way" | false => pure ()) Q' E s₁ := fun b _ _ q => by
      cases b
      · exact wpAny_pure q
      · exact wpAny_rule q
    have pm := layNew_perm t es ((PySem.strKind P w).hash k) (.str k tk)
    have f1 := layNew_fits t es ((PySem.strKind P w).hash k) (.str k tk)
    have r1 := layNew_ris t es ((PySem.strKind P w).hash k) (.str k tk) hr
    have l1 := layNew_led t es ((PySem.strKind P w).hash k) (.str k tk)
    generalize layNew t es ((PySem.strKind P w).hash k) (.str k tk) = Z at pm f1 r1 l1 ⊢
    obtain ⟨es1, t1, wasDummy, gave⟩ := Z
    dsimp only at pm f1 r1 l1 ⊢
    rw [Array.toList_push] at pm
    have pc : es1.toList.Perm (((PySem.strKind P w).hash k, Value.str k tk) :: es.toList) := pm.trans (List.perm_append_singleton _ _)
    have pk : (es1.toList.map keyS).Perm (k :: es.toList.map keyS) := pc.map keyS
    have g1 : ∀ e ∈ es1.toList, GoodS w e := fun e he => by
      rcases List.mem_cons.mp (pc.mem_iff.mp he) with z | z
      · rw [z]; exact ⟨k, tk, rfl, rfl⟩
      · exact g e z
    have nd1 : (es1.toList.map keyS).Nodup := pk.nodup_iff.mpr (List.nodup_cons.mpr ⟨hnk, nd⟩)
    have m1 : ∀ i, (T i || decide (i = k)) = true ↔ i ∈ es1.toList.map keyS := fun i => by
      rw [Bool.or_eq_true, decide_eq_true_eq, hm i, pk.mem_iff, List.mem_cons]
      exact Or.comm
    have z : es1.size = n + 1 := by rw [← Array.length_toList, pc.length_eq, List.length_cons, Array.length_toList, hn]
    have hb1 : es1.size < scanBound := by rw [z]; exact room
    have hled : w.params.followText "set-order" = true ∨ t1.led = true := hl.imp id fun q => by rw [l1]; exact q
    have fin : ∀ h', Heap.SameBut a s.heap h' → SetS w h' a (fun j => T j || decide (j = k)) es1.size → Q true { s with heap := h' } := fun h' sb r => by
      have q := hQ h' sb
      rw [hT] at q
      rw [z] at r
      exact q r
    refine wpAny_bind (gave_ _ ?_)
    split
    · refine wpAny_bind ?_
      rw [hashByValue_scannable 8 hsc]
      refine wpAny_pure ?_
      refine setS_tail (fun b s₁ Q' q => ?_) ho hex hd g1 nd1 m1 hb1 ?_ ?_ ?_ fun h' sb r => ?_
      · cases b
        · exact wpAny_pure q
        · exact wpAny_rule q
      · first | (split <;> first | exact f1 | exact SetTable.fits_plain_off f1) | exact f1
      · first | (split <;> exact r1) | exact r1
      · first | (split <;> exact hled) | exact hled
      · dsimp only; exact wpAny_pure (fin h' sb r)
    · refine wpAny_bind (wpAny_pure ?_)
      simp only [↓reduceIte]
      refine setS_tail (fun b s₁ Q' q => ?_) ho hex hd g1 nd1 m1 hb1 f1 r1 hled fun h' sb r => ?_
      · cases b
        · exact wpAny_pure q
        · exact wpAny_rule q
      · dsimp only; exact wpAny_pure (fin h' sb r)
theorem setS_fresh {h : Heap} (w : World) : SetS w (h.push { cls := .type "set", dict := none, data := .set #[] 0 (.fresh 0 0 (!w.params.followText "set-order")) }) h.objs.size (fun _ => false) 0 :=
  ⟨_, #[], 0, _, Heap.get?_push_size _ rfl, ⟨rfl, rfl, rfl⟩, rfl, (fun e he => by simp at he), (by simp), (fun k => by simp), (by decide), (by rfl), rfl, List.Pairwise.nil, by
    show _ ∨ (!w.params.followText "set-order") = true
    cases w.params.followText "set-order"
    · exact .inr rfl
    · exact .inl rfl⟩
end
end MP

/-! set(texts) made of a list; sorted(set(texts)) -/
namespace MP
open PySem PySem.Spec PyProof.Rows L2
section
variable {P : Program} {w : World} {A : Around} {R : Result → Shared → Prop} {E : Value → Shared → Prop} {s : Shared}
theorem loopS2 {It : Addr} {fp wr : List Addr} {G : Array GenState → Array GenState → Prop} {n : Nat} {Pv : Nat → Value → Prop} {St : Nat → Shared → Prop} (W : WalksS P w A.in1 It fp wr G n Pv St) (a : Addr) (ha : a ∉ fp) (xs : List Str) (hn : xs.length = n) (hz : n ≤ 4000)
    (hv : ∀ i v, Pv i v → ∃ t, v = .str (xs.getD i Str.empty) t) : ∀ (k i : Nat) (s : Shared), n - i = k → i ≤ n → St i s → SetS w s.heap a (metS xs i) (cntS xs i) →
      (∀ s', Moved (a :: wr) G s s' → SetS w s'.heap a (metS xs n) (cntS xs n) → R (.ok (.ret .none)) s') →
      codeAny (model P w) A (.builtin "set.update.loop" ⟨[.ref a, .ref It], []⟩) R s := by
  have naw : a ∉ wr := fun z => ha (W.sub _ z)
  have sub : ∀ b ∈ wr, b ∈ a :: wr := fun b hb => List.mem_cons_of_mem _ hb
  intro k
  induction k with
  | zero =>
    intro i s e0 hi st hS hR
    obtain rfl : i = n := by omega
    refine codeAny_builtin PyProof.Rows.F.entry_set_update_loop ?_
    rw [Around.under_plainId PyProof.Rows.F.plain_set_update_loop _]
    show wpAny _ A.in1 (pyNext (.ref It) >>= _) _ _ s
    exact wpAny_bind (W.done s _ _ st fun s' mv => wpAny_pure (hR s' (mv.mono sub) (hS.keep (fun o e => mv.heap a _ naw e))))
  | succ k ih =>
    intro i s e0 hi st hS hR
    have lt : i < n := by omega
    refine codeAny_builtin PyProof.Rows.F.entry_set_update_loop ?_
    rw [Around.under_plainId PyProof.Rows.F.plain_set_update_loop _]
    show wpAny _ A.in1 (pyNext (.ref It) >>= _) _ _ s
    refine wpAny_bind (W.item i s _ _ lt st fun v s' pv st' mv => ?_)
    obtain ⟨t, rfl⟩ := hv i v pv
    have hS' := hS.keep (h' := s'.heap) (fun o e => mv.heap a _ naw e)
    show wpAny _ A.in1 (holding [Value.str (xs.getD i Str.empty) t] (setAdd a (.str (xs.getD i Str.empty) t)) >>= _) _ _ s'
    refine wpAny_bind (wpAny_holding ?_)
    unfold setAdd
    refine wpAny_holding (wpAny_bind ((PySem.strKind P w).pyHash (k := xs.getD i Str.empty) (strKind_is _ _ _ _) ?_))
    have hc := cntS_le xs i
    refine setS_add (s := { s' with toks := s'.toks + 1 }) hS' (by unfold scanBound; omega) fun h' hb hS2 => ?_
    have hS3 : SetS w h' a (metS xs (i + 1)) (cntS xs (i + 1)) := hS2.congr (fun k => met_succ (by omega) k) rfl
    refine wpAny_pure ⟨plainId_quiet PyProof.Rows.F.plain_set_update_loop _, ih (i + 1) _ (by omega) lt (W.frame _ s' _ _ st' (Nat.le_succ _) fun b hb' o e => ?_) hS3 fun s'' mv2 hS4 => ?_⟩
    · rw [hb.2 b fun z : b = a => ha (by rw [← z]; exact hb')]; exact e
    · refine hR s'' (Moved.trans W.gtrans ((mv.mono sub).then_heap (Nat.le_succ _) fun b o hb' e => ?_) mv2) hS4
      rw [hb.2 b fun z : b = a => hb' (by rw [z]; exact List.mem_cons_self)]; exact e
set_option maxHeartbeats 3200000 in
theorem set_texts2 {l : Addr} {vs : Array Value} {xs : List Str} {Q : Value → Shared → Prop} (hd : A.handled = none) (hl : s.heap.IsList l vs) (hx : StrsAre vs.toList xs) (hz : xs.length ≤ 4000)
    (q : ∀ (h' : Heap) (tk : Nat), SetS w h' s.heap.objs.size (metS xs vs.size) (cntS xs vs.size) → (∀ b o, b < s.heap.objs.size → s.heap.get? b = some o → h'.get? b = some o) → Q (.ref s.heap.objs.size) { s with heap := h', toks := tk }) :
    wpAny (model P w) A (call (.type "set") [.ref l]) Q E s := by
  obtain ⟨c, tl, mro⟩ := PySem.F.called_set.mro
  have f1 := PySem.F.called_set.made
  have f2 := PySem.F.called_set.sub
  have f3 := PySem.F.called_set.notType
  have f4 := PySem.F.called_set.canCreate
  have f5 := PySem.F.typeCall_set_1 (.ref l)
  refine wpAny_call (codeAny_of_tree ?_)
  show wpAny _ _ (callAny (.type "set") _) _ _ _
  refine wpAny_pure ⟨Code.quiet_builtin _ (by decide +kernel), codeAny_builtin PySem.F.entry_type_call ?_⟩
  rw [Around.under_plain (weight_type_call_type "set" [.ref l] []) rfl]
  repeat (any_goals (first | assumption | wp_step))
  refine codeAny_mono (code_set_led1 (.ref l) (E := E) (Q₁ := fun u s1 => u = .ref s.heap.objs.size ∧ s1 = { s with heap := s.heap.push { cls := .type "set", dict := none, data := .set #[] 0 (.fresh 0 0 (!w.params.followText "set-order")) } }) ⟨rfl, rfl⟩) fun r s1 hr => ?_
  rcases r with e | (_ | _ | _ | u)
  · exact hr
  · exact hr.elim
  · exact hr.elim
  · exact hr.elim
  obtain ⟨rfl, rfl⟩ := hr
  have fresh := setS_fresh (h := s.heap) w
  generalize (!w.params.followText "set-order") = led at fresh ⊢
  have at0 : (s.heap.push { cls := .type "set", dict := none, data := .set #[] 0 (.fresh 0 0 led) }).get? s.heap.objs.size = some { cls := .type "set", dict := none, data := .set #[] 0 (.fresh 0 0 led) } := Heap.get?_push_size _ rfl
  have ty0 : Shared.TypeIs { s with heap := s.heap.push { cls := .type "set", dict := none, data := .set #[] 0 (.fresh 0 0 led) } } (.ref s.heap.objs.size) "set" := ⟨_, at0, rfl⟩
  have g1 := PySem.F.called_set.init.lookup
  have g2 := PySem.F.called_set.init.bind (.ref s.heap.objs.size)
  repeat (any_goals (first | assumption | wp_step))
  refine codeAny_mono (codeAny_call_builtin (R := wants (fun r s2 => r = .none ∧ ∃ h' tk, s2 = { s with heap := h', toks := tk } ∧ SetS w h' s.heap.objs.size (metS xs vs.size) (cntS xs vs.size) ∧
    (∀ b o, b < s.heap.objs.size → s.heap.get? b = some o → h'.get? b = some o)) E) PySem.F.called_set.init.plain PySem.F.entry_set_init (check_set_init_1 ty0 ?_)) fun r2 s2 hr2 => ?_
  · obtain ⟨⟨lc, ld, lda, lsl⟩, el, ec, ln, ed⟩ := hl
    simp only at ec ed
    subst ec
    subst ed
    have hlt : l < s.heap.objs.size := Heap.lt_size el
    have el2 : (s.heap.push { cls := .type "set", dict := none, data := .set #[] 0 (.fresh 0 0 led) }).get? l = some { cls := .type "list", dict := ld, data := .seq vs ln, slots := lsl } := Heap.get?_push_of_some _ el
    have hl1 : (s.heap.push { cls := .type "set", dict := none, data := .set #[] 0 (.fresh 0 0 led) }).IsList l vs := ⟨_, el2, rfl, ln, rfl⟩
    have k1 := PySem.F.sub_list_set
    have k2 := PySem.F.sub_list_frozenset
    have k3 : (Value.type "list" == Value.type "dict") = false := by decide
    unfold Builtin.«set.__init__» noKeywords Builtin.Frozenset.updateFrom
    generalize hPI : pyIter = PI
    wp_walk
    subst hPI
    refine wpAny_pyIter_list hl1 (wpAny_bind (wpAny_runValue ?_))
    have hh3 : A.in1.in1.in1.handled = none := by simp [hd]
    have n1 : l ≠ (s.heap.push { cls := .type "set", dict := none, data := .set #[] 0 (.fresh 0 0 led) }).objs.size := by
      rw [Heap.size_push]; exact Nat.ne_of_lt (Nat.lt_succ_of_lt hlt)
    have n2 : s.heap.objs.size ∉ [(s.heap.push { cls := .type "set", dict := none, data := .set #[] 0 (.fresh 0 0 led) }).objs.size, l] := by
      rw [Heap.size_push]
      simp only [List.mem_cons, List.not_mem_nil, or_false, not_or]
      exact ⟨Nat.ne_of_lt (Nat.lt_succ_self _), Nat.ne_of_gt hlt⟩
    have hsz : xs.length = vs.size := by rw [← StrsAre.len_eq hx, Array.length_toList]
    refine loopS2 ((Walks.list hh3 _ l n1 vs).toS) s.heap.objs.size n2 xs hsz (by rw [← hsz]; exact hz) (fun i v hv => SS.strs_at hx i v (by rw [Array.getElem?_toList]; exact hv)) (vs.size - 0) 0 _ (by omega) (Nat.zero_le _) ⟨⟨_, Heap.get?_push_size _ rfl, rfl, rfl⟩, (hl1.push _)⟩ ?_ fun s' mv hS => ?_
    · exact (fresh.keep fun o e => Heap.get?_push_of_some _ e).congr (fun _ => rfl) rfl
    · obtain ⟨h', g', d', tk', os'⟩ := s'
      have e1 : g' = s.gens := mv.gens
      have e2 : d' = s.drawn := mv.drawn
      have e3 : os' = s.os := mv.os
      subst e1
      subst e2
      subst e3
      show wpAny _ _ _ _ _ _
      refine wpAny_pure ?_
      show wpAny _ _ (ret Value.none) _ _ _
      refine wpAny_pure ⟨rfl, h', tk', rfl, hS, fun b o hb e => mv.heap b o ?_ (Heap.get?_push_of_some _ (Heap.get?_push_of_some _ e))⟩
      rw [Heap.size_push]
      simp only [List.mem_cons, List.not_mem_nil, or_false, not_or]
      exact ⟨Nat.ne_of_lt hb, Nat.ne_of_lt (Nat.lt_succ_of_lt hb)⟩
  · rcases r2 with e | (_ | _ | _ | u)
    · exact hr2
    · exact hr2.elim
    · exact hr2.elim
    · exact hr2.elim
    obtain ⟨rfl, h', tk, rfl, hS, hk⟩ := hr2
    repeat (any_goals (first | assumption | wp_step))
    exact q _ _ hS hk
def keyV : Value → Str
  | .str k _ => k
  | _ => Str.empty
theorem each_strs : ∀ vs : List Value, (∀ v ∈ vs, ∃ k tk, v = Value.str k tk) → ∃ bs : List Str, bs = vs.map keyV ∧ PySem.W.EachIs (fun v b => ∃ tk, v = Value.str b tk) vs bs
  | [], _ => ⟨[], rfl, .nil⟩
  | v :: vs, h => by
    obtain ⟨bs, e, r⟩ := each_strs vs fun u hu => h u (by simp [hu])
    obtain ⟨k, tk, rfl⟩ := h v (by simp)
    exact ⟨k :: bs, by rw [e]; rfl, .cons ⟨tk, rfl⟩ r⟩
theorem strsAre_each : ∀ {vs : List Value} {bs : List Str}, PySem.W.EachIs (fun v b => ∃ tk, v = Value.str b tk) vs bs → StrsAre vs bs
  | _, _, .nil => .nil
  | _, _, .cons ⟨tk, e⟩ r => by subst e; exact .cons _ tk (strsAre_each r)
theorem srt_strsM (ys : List Str) (h : ys.length ≤ 100000) : PySem.W.AllAlike (ys.map PyData.str) ∧ PySem.W.Sortable (ys.map PyData.str) ∧ True := by
  have hk : srtOk (ys.map D.str) = true := by
    unfold srtOk
    simp only [Bool.and_eq_true, List.all_eq_true, decide_eq_true_eq, Bool.or_eq_true]
    refine ⟨⟨⟨⟨fun x hx => ?_, fun x hx y hy => ?_⟩, .inr fun x hx => ?_⟩, fun x hx => ?_⟩, by rw [List.length_map]; exact Nat.le_trans h (by decide)⟩
    all_goals obtain ⟨a, _, rfl⟩ := List.mem_map.mp hx
    · rfl
    · obtain ⟨b, _, rfl⟩ := List.mem_map.mp hy
      rfl
    · rfl
    · simp [MP.encD, toPD, PyData.depth]
  obtain ⟨h1, h2, h3, h4, h5⟩ := srtOk_inv hk
  rw [List.map_map] at h2 h3
  exact ⟨h2, h3, trivial⟩
/-- sorted(a set of texts) -/
theorem sorted_setS {a : Addr} {T : Str → Bool} {n : Nat} {Q : Value → Shared → Prop} (R : SetS w s.heap a T n) (hh : A.handled = none) (hu : A.units + 64 < cLine)
    (hQ : ∀ s' p (out : Array Value) (c : Nat) (ns : List Str), (∀ b o, s.heap.get? b = some o → s'.heap.get? b = some o) → s'.gens = s.gens → s'.os = s.os → s.heap.objs.size ≤ p →
      s'.heap.get? p = some (seqObj "list" out c) → StrsAre out.toList ns → ns.Pairwise (fun x y => decide (x.cps.toList ≤ y.cps.toList) = true) → ns.Nodup → (∀ k, k ∈ ns ↔ T k = true) → Q (.ref p) s') :
    wpAny (model P w) A (call (.builtin "sorted") [.ref a]) Q E s := by
  obtain ⟨o, es, ep, t, ho, hex, hd, g, nd, hm, hb, hf, hn, hr, hl⟩ := R.ex
  refine Calls.call_function_entry kind_sorted plain_sorted entry_sorted (args_sorted1 _) ?_
  unfold Builtin.«sorted»
  refine wpAny_bind (m := checkCount "sorted" 1 1 _) (wpAny_pure ?_)
  refine wpAny_bind (collect_set (A := A.in1) hh ⟨o, ho, hex.1, hd⟩ hf hb hr hl fun s1 vs k1 hz g1 o1 pm => ?_)
  have hg : ∀ v ∈ vs, ∃ k tk, v = Value.str k tk := fun v hv => by
    obtain ⟨e, he, q⟩ := List.mem_map.mp (pm.mem_iff.mp hv)
    obtain ⟨k, tk, h1, _⟩ := g e he
    exact ⟨k, tk, by rw [← q]; exact h1⟩
  obtain ⟨bs, hbs, E1⟩ := each_strs vs hg
  have hvl : vs.length = es.size := by rw [pm.length_eq, List.length_map, Array.length_toList]
  have hbl : bs.length = es.size := by rw [hbs, List.length_map]; exact hvl
  have pk : bs.Perm (es.toList.map keyS) := by
    rw [hbs]
    have q := pm.map keyV
    rw [List.map_map] at q
    exact q
  have hle : es.size ≤ 100000 := Nat.le_of_lt (Nat.lt_trans hb (by decide))
  refine wpAny_bind (wpAny_newList ?_ (by rw [hvl]; exact fits_of_scanBound hb))
  have hoL : (s1.heap.push (seqObj "list" vs.toArray 0)).get? s1.heap.objs.size = some (seqObj "list" vs.toArray 0) := Heap.get?_push_size _ rfl
  obtain ⟨a1, a2, a3⟩ := srt_strsM bs (by omega)
  refine wpAny_bind (wpAny_holding (PySem.W.list_sort_data (enc := PyData.str) hoL E1 (E1.mono fun v b ⟨tk, e⟩ => ⟨[], by rw [e]; exact .str b tk, by simp⟩) a1 a2 (by rw [hbl]; exact fits_of_scanBound hb) (fun b _ => ?_) fun out ho hE => ?_))
  · have : (PyData.str b).depth = 0 := rfl
    have hA : A.in1.units ≤ A.units + 1 := by simp [Around.in1]
    omega
  obtain ⟨c, hc⟩ := sortedHeap_at (vs := vs) (out := out.toArray) hoL
  rw [PySem.W.dataLe_str (fun b : Str => b)] at hE
  have pn : (bs.mergeSort fun a b => decide (a.cps.toList ≤ b.cps.toList)).Perm (es.toList.map keyS) := (List.mergeSort_perm _ _).trans pk
  refine wpAny_pure ⟨_, rfl, hQ { s1 with heap := sortedHeap (s1.heap.push (seqObj "list" vs.toArray 0)) s1.heap.objs.size vs out.toArray } s1.heap.objs.size out.toArray c _ (fun b u e => ?_) g1 o1 hz hc (strsAre_each (by simpa using hE)) (List.pairwise_mergeSort ?_ ?_ _) (pn.nodup_iff.mpr nd) fun k => by rw [pn.mem_iff, ← hm k]⟩
  · have q := k1 b u e
    have hlt := Heap.lt_size q
    show (sortedHeap (s1.heap.push (seqObj "list" vs.toArray 0)) s1.heap.objs.size vs out.toArray).get? b = some u
    rw [sortedHeap_old (Nat.ne_of_lt hlt) (by rw [size_push']; exact Nat.lt_succ_of_lt hlt)]
    exact Heap.get?_push_of_some _ q
  · exact fun a b c h1 h2 => decide_eq_true (List.le_trans (of_decide_eq_true h1) (of_decide_eq_true h2))
  · intro a b
    rw [Bool.or_eq_true]
    exact (List.le_total a.cps.toList b.cps.toList).imp decide_eq_true decide_eq_true
end
end MP

/-! sorted(set(a list of texts)) as an expression -/
namespace MP
open PySem PySem.Spec PyProof.Rows L2
def nubS : List Str → List Str
  | [] => []
  | x :: r => if x ∈ r then nubS r else x :: nubS r
theorem mem_nub {k : Str} : ∀ {ys : List Str}, k ∈ nubS ys ↔ k ∈ ys
  | [] => Iff.rfl
  | x :: r => by
    unfold nubS
    split
    · rename_i h
      rw [mem_nub (ys := r), List.mem_cons]
      exact ⟨.inr, fun z => z.elim (fun e => e ▸ h) id⟩
    · rw [List.mem_cons, List.mem_cons, mem_nub (ys := r)]
theorem nodup_nub : ∀ ys : List Str, (nubS ys).Nodup
  | [] => .nil
  | x :: r => by
    unfold nubS
    split
    · exact nodup_nub r
    · rename_i h
      exact List.nodup_cons.mpr ⟨fun z => h (mem_nub.mp z), nodup_nub r⟩
theorem len_nub : ∀ ys : List Str, (nubS ys).length ≤ ys.length
  | [] => Nat.le_refl _
  | x :: r => by
    have := len_nub r
    unfold nubS
    split
    · rw [List.length_cons]; omega
    · rw [List.length_cons, List.length_cons]; omega
def leS (a b : Str) : Bool := decide (a.cps.toList ≤ b.cps.toList)
def srtS (ys : List Str) : List Str := (nubS ys).mergeSort leS
theorem srtS_of {ns ys : List Str} (h1 : ns.Pairwise fun x y => decide (x.cps.toList ≤ y.cps.toList) = true) (h2 : ns.Nodup) (h3 : ∀ k, k ∈ ns ↔ k ∈ ys) : ns = srtS ys := by
  have hp : ns.Perm (nubS ys) := (List.perm_ext_iff_of_nodup h2 (nodup_nub ys)).mpr fun k => (h3 k).trans mem_nub.symm
  refine PySem.W.Srt.the_of_perm leS (fun a b c h1 h2 => decide_eq_true (List.le_trans (of_decide_eq_true h1) (of_decide_eq_true h2))) (fun a b => ?_) (fun a b h1 h2 => Str.ext' (Array.toList_inj.mp (List.le_antisymm (of_decide_eq_true h1) (of_decide_eq_true h2)))) hp h1
  rw [Bool.or_eq_true]
  exact (List.le_total a.cps.toList b.cps.toList).imp decide_eq_true decide_eq_true
theorem met_all {ys : List Str} {k : Str} : metS ys ys.length k = true ↔ k ∈ ys := by
  unfold metS
  rw [List.take_of_length_le (Nat.le_refl _), List.any_eq_true]
  exact ⟨fun ⟨x, hx, e⟩ => by rw [← beq_iff_eq.mp e]; exact hx, fun h => ⟨k, h, beq_iff_eq.mpr rfl⟩⟩
theorem vals_strsAre : ∀ {us : List Value} {ns : List Str}, StrsAre us ns → Vals (ns.map V.str) us
  | _, _, .nil => .nil
  | _, _, .cons y t r => .cons ⟨t, rfl⟩ (vals_strsAre r)
/-- sorted(set(a list of texts)) -/
def gSortSet : GC := fun S ds => match ds with
  | [d] => match vw S d with
    | .lst l => match strsD l with
      | some ys => if ys.length ≤ 4000 then some (.lst ((srtS ys).map D.str)) else none
      | none => none
    | _ => none
  | _ => none
theorem pel_sortSet {X : Cx} {a : Expr} {t : LA} {p p2 q pos : Pos} (hc : X.calm = true) (hu : X.A.units + 64 < cLine) (hg : Gl X "sorted") (hm : X.mg "sorted" = none) (hg2 : Gl X "set") (hm2 : X.mg "set" = none) (ha : PAL X [a] t)
    (na : starEach [a] X.env = (false, eval a X.env) :: starEach [] X.env := by rfl) : PEL X (.Call (.Name "sorted" p) [.Call (.Name "set" p2) [a] [] q] [] pos) (lCallB gSortSet t) := by
  refine ⟨fun pins s σ H m ρ S I x r hp => ?_⟩
  refine Call_ (ld_blt I hg hm (u := .builtin "sorted") (by decide +kernel) ?_)
  refine PyProof.Rows.callWith_builtin1 (PyProof.Rows.args_cons ?_ rfl) rfl rfl
  refine Call_ (ld_blt I hg2 hm2 boot_set ?_)
  refine PyProof.Rows.callWith_type1 (run_seqA ha I x r hp fun ds S1 q1 vs us s1 H1 m1 I1 rv e1 x1 w1 r1 hp1 => ?_) na rfl
  obtain ⟨d, q2⟩ := lift_ok hp1
  have e0 : lCallB gSortSet t ρ S = .ok d S1 := by unfold lCallB; rw [q1, bind_ok, q2]; rfl
  rw [e0]
  unfold gSortSet at q2
  split at q2
  · split at q2
    · rename_i l hl
      split at q2
      · rename_i ys hs
        split at q2
        · rename_i hz
          cases q2
          obtain ⟨v, rfl, w⟩ := w1.one
          have he := strsD_eq hs
          subst he
          obtain ⟨b, ws, rfl, h1, r2⟩ := vw_lst x1 w hl
          have hv := vrs_strs r2
          subst hv
          rw [Vals.ref1 rv]
          obtain ⟨its, rv2, pl, hz2⟩ := I1.list h1
          have hlen : its.toArray.size = ys.length := by rw [List.size_toArray, ← rv2.length, List.length_map]
          refine set_texts2 (I1.ok.hd hc) pl.isList (by simpa using strs_of_vals rv2) hz fun h' tk hS hk => ?_
          refine PyProof.Rows.args_nil ?_
          rw [hlen] at hS
          have I2 : Inv X pins σ H1 { s1 with heap := h', toks := tk } := I1.kept fun b o e => hk b o (Heap.lt_size e) e
          refine sorted_setS hS (I2.ok.hd hc) hu fun s' p out c ns k g o hp' hg' hout pw nd hmem => ?_
          have hns : ns = srtS ys := srtS_of pw nd fun k => (hmem k).trans met_all
          subst hns
          have hn : H1 p = none := I2.hok.fresh hp'
          have hln : ((srtS ys).map V.str).length ≤ sizeLine := by
            have := len_nub ys
            rw [List.length_map]
            unfold srtS
            rw [List.length_mergeSort]
            exact Nat.le_trans (Nat.le_trans this hz) (by decide)
          have J : Inv X pins σ (upd H1 p (.lst ((srtS ys).map V.str))) { ({ s1 with heap := h', toks := tk } : Shared) with heap := s'.heap, gens := s'.gens, drawn := s'.drawn, toks := s'.toks } :=
            I2.call (ch := []) (Un.laid k hp' hn) (I2.hok.laid k hp' ⟨hln, out.toList, c, vals_strsAre hout, hg'⟩) (by rw [g]; exact I2.bare) (fun _ z => nomatch z)
          have e : s' = { ({ s1 with heap := h', toks := tk } : Shared) with heap := s'.heap, gens := s'.gens, drawn := s'.drawn, toks := s'.toks } := by
            obtain ⟨a1, a2, a3, a4, a5⟩ := s'
            have o' : a5 = s1.os := o
            subst o'
            rfl
          rw [e]
          exact (vpr_of ⟨.ref p, upd H1 p (.lst ((srtS ys).map V.str)), m1, J, rfl, Ext.fresh hn, x1.fresh hn, vr_newLst x1 hn VRs.of_strs⟩).left e1
        · cases q2
      · cases q2
    · cases q2
  · cases q2
end MP

/-! a list, a tuple, times a number -/
namespace MP
open PySem PySem.Spec PyProof.Rows L2
theorem q_mul_int (l : Addr) (items : Array Value) (n : Nat) (d : Option Addr) (sl : Array (Option Value)) (x : Int) (u : Tok) (hc0 : ¬(!Builtin.List.listFitsIndex x) = true)
    (hc1 : ¬items.size * x.toNat > (2 ^ 63 - 1) / 8) (hc2 : ¬Builtin.List.listTooLong (items.size * x.toNat) = true) :
    Meets (Builtin.«list.__mul__» ⟨[.ref l, .int x u], []⟩) (fun _ R s => s.heap.get? l = some { cls := .type "list", dict := d, data := .seq items n, slots := sl } ∧ R (.ok (.ret (Value.ref s.heap.objs.size))) { s with heap := s.heap.push { cls := Value.type "list", data := Data.seq (List.foldl (fun x1 x2 => x1 ++ x2) #[] (List.replicate (if items.isEmpty = true then 0 else x.toNat) items)) }, toks := s.toks }) :=
  .of_wp fun prog w A R s h => by
    obtain ⟨hp, g, d, tk, os⟩ := s; obtain ⟨hl, h⟩ := h
    have hsz := AutoListH.joined_fits hc2
    wp_walk; refine wpAny_ite_false (decide_eq_false (Nat.not_lt.mpr hsz)) ?_; wp_walk; exact ⟨_, rfl, h⟩
theorem q_rmul_int (a : Int) (t : Tok) (l : Addr) (items : Array Value) (n : Nat) (d : Option Addr) (sl : Array (Option Value)) :
    Meets (Builtin.«int.__rmul__» ⟨[.int a t, .ref l], []⟩) (fun _ R s => s.heap.get? l = some { cls := .type "list", dict := d, data := .seq items n, slots := sl } ∧ R (.ok (.ret Value.notImplemented)) s) :=
  .of_wp fun prog w A R s h => by obtain ⟨hp, g, d, tk, os⟩ := s; obtain ⟨hl, h⟩ := h; wp_walk; exact ⟨_, rfl, h⟩
theorem q_tup_empty (l : Addr) (n : Nat) (dd : Option Addr) (sl : Array (Option Value)) (x : Int) (u : Tok) (c0 : (decide (x < -(2 ^ 63)) || decide (x ≥ 2 ^ 63)) = false) :
    Meets (Builtin.«tuple.__mul__» ⟨[.ref l, .int x u], []⟩) (fun _ R s => s.heap.get? l = some { cls := .type "tuple", dict := dd, data := .seq #[] n, slots := sl } ∧ R (.ok (.ret (Value.ref l))) s) :=
  .of_wp fun prog w A R s h => by
    obtain ⟨hp, g, d, tk, os⟩ := s
    obtain ⟨hl, h⟩ := h
    have f1 := AutoSeq1.idx_int
    wp_walk using wpAny_loadPart' hl
    refine wpAny_ite_false (decide_eq_false (by rw [c0]; exact Bool.false_ne_true)) ?_
    wp_walk using wpAny_loadPart' hl
    exact ⟨_, rfl, h⟩
section
variable {X : Cx}
theorem op_repL : OpR X (binaryOp .Mult) (fun x y H Q => ∃ a xs k, x = V.ref a ∧ y = V.int k ∧ SqL X.K H a xs ∧ 0 ≤ k ∧ k ≤ 1000 ∧ xs.length * k.toNat ≤ 1000000 ∧ ∀ p, H p = none → Q (.ref p) (upd H p (.lst (List.replicate k.toNat xs).flatten))) := by
  intro pins s σ H x y v u Q I rx ry h
  obtain ⟨a, xs, k, rfl, rfl, hs, k0, k1, hm, q⟩ := h
  obtain rfl : v = Value.ref a := rx
  obtain ⟨t, rfl⟩ := ry
  obtain ⟨its, rv, ⟨⟨cls, dd, data, sl⟩, n, ho, hc, hdn, hd⟩, hlen⟩ := I.list hs
  have hc1 : cls = Value.type "list" := hc
  have hd1 : data = Data.seq its.toArray n := hd
  subst hc1 hd1
  have hsl := sizeLine_eq
  have hz : its.toArray.size * k.toNat ≤ 1000000 := by rw [List.size_toArray, ← rv.length]; exact hm
  have hfit : ¬(!Builtin.List.listFitsIndex k) = true := by
    rw [fitsIndex_both (by omega) (by omega)]
    exact Bool.false_ne_true
  refine wpAny_binaryOp_repeat_ref (T := "list") (U := "int") (by decide) ⟨_, ho, rfl⟩ (fun s' => typeIs_int s' k t) noFill_list_mul F.fills_int_mul F.slot_int_rmul repeat_list F.slot_int_index.lookup
    (call_meets F.slot_int_rmul (typeIs_int s k t) F.entry_int_rmul (F.args_int_rmul_2 _ _) (q_rmul_int k t a its.toArray n dd sl)
      ⟨ho, rfl, ⟨_, ho, rfl⟩, call_meets F.slot_list_mul ⟨_, ho, rfl⟩ F.entry_list_mul (F.args_list_mul_2 _ _)
        (q_mul_int a its.toArray n dd sl k t hfit (by omega) (by simp only [Builtin.List.listTooLong, decide_eq_true_eq]; omega))
        ⟨ho, ?_⟩⟩)
  have e : List.foldl (fun x1 x2 => x1 ++ x2) #[] (List.replicate (if its.toArray.isEmpty = true then 0 else k.toNat) its.toArray) = (List.replicate k.toNat its).flatten.toArray := by
    rw [listMul_foldl_if]
  rw [e]
  refine ⟨.ref s.heap.objs.size, _, I.laid (t' := s.toks) (o := .lst (List.replicate k.toNat xs).flatten) (fun b o e => Heap.get?_push_of_some _ e) (Nat.le_refl _) ⟨?_, _, 0, rv.rep k.toNat, Heap.get?_push_size _ rfl⟩, rfl, q _ (I.hok.fresh (Nat.le_refl _))⟩
  rw [PyProof.Rows.lm_len_rep_flat, Nat.mul_comm]
  omega
theorem op_repE : OpR X (binaryOp .Mult) (fun x y H Q => ∃ a k, x = V.ref a ∧ y = V.int k ∧ SqT X.K H a [] ∧ 0 ≤ k ∧ k ≤ 1000 ∧ Q (.ref a) H) := by
  intro pins s σ H x y v u Q I rx ry h
  obtain ⟨a, k, rfl, rfl, hT, k0, k1, q⟩ := h
  obtain rfl : v = Value.ref a := rx
  obtain ⟨t, rfl⟩ := ry
  obtain ⟨its, r, ⟨⟨cls, dd, data, sl⟩, ho, hc, n, hd⟩, hs⟩ := I.tuple hT
  simp only at hc hd
  subst hc hd
  cases r
  have c0 : (decide (k < -(2 ^ 63)) || decide (k ≥ 2 ^ 63)) = false := by
    rw [decide_eq_false (by omega), decide_eq_false (by omega)]; rfl
  exact wpAny_binaryOp_repeat_ref (T := "tuple") (U := "int") (by decide) ⟨_, ho, rfl⟩ (fun s' => typeIs_int s' k t) noFill_tuple_mul F.fills_int_mul F.slot_int_rmul repeat_tuple F.slot_int_index.lookup
    (call_meets F.slot_int_rmul (typeIs_int s k t) F.entry_int_rmul (F.args_int_rmul_2 _ _) (int_rmul_tuple k t a #[] n dd sl)
      ⟨ho, rfl, ⟨_, ho, rfl⟩, call_meets F.slot_tuple_mul ⟨_, ho, rfl⟩ F.entry_tuple_mul (F.args_tuple_mul_2 _ _) (q_tup_empty a n dd sl k t c0) ⟨ho, ⟨.ref a, H, I, rfl, q⟩⟩⟩)
def gRepL : G2 := fun S dx dy => match vw S dx, dy with
  | .lst xs, .int k => if 0 ≤ k ∧ k ≤ 1000 ∧ xs.length * k.toNat ≤ 1000000 then some (.lst (List.replicate k.toNat xs).flatten) else none
  | _, _ => none
def gRepT : G2 := fun S dx dy => match vw S dx, dy with
  | .tup (x :: xs), .int k => if 2 ≤ k ∧ k ≤ 1000 ∧ (x :: xs).length ≤ 1000 then some (.tup (List.replicate k.toNat (x :: xs)).flatten) else none
  | _, _ => none
def gRepE : G2 := fun S dx dy => match vw S dx, dy with
  | .tup [], .int k => if 0 ≤ k ∧ k ≤ 1000 then some (.tup []) else none
  | _, _ => none
theorem opl_repL : OpL X (binaryOp .Mult) gRepL := .of op_repL fun H m S x y dx dy d q rx ry e => by
  unfold gRepL at e
  split at e
  · rename_i xs k e1
    split at e
    · rename_i hz
      cases e
      obtain ⟨a, vs, rfl, h1, r⟩ := vw_lst q rx e1
      cases ry
      exact ⟨a, vs, k, rfl, rfl, h1, hz.1, hz.2.1, by rw [r.length]; exact hz.2.2, fun p hp => qv_new q hp (vr_newLst q hp (r.rep _))⟩
    · cases e
  · cases e
theorem opl_repT : OpL X (binaryOp .Mult) gRepT := .of op_repT fun H m S x y dx dy d q rx ry e => by
  unfold gRepT at e
  split at e
  · rename_i z xs k e1
    split at e
    · rename_i hz
      cases e
      obtain ⟨a, vs, rfl, h1, r⟩ := vw_tup rx e1
      cases ry
      have hl := r.length
      refine ⟨a, k, vs, rfl, rfl, SqT.of h1, fun z => ?_, hz.1, hz.2.1, by rw [hl]; exact hz.2.2, fun p hp => qv_new q hp (vr_newTup q hp (r.rep _))⟩
      rw [z] at hl
      cases hl
    · cases e
  · cases e
theorem opl_repE : OpL X (binaryOp .Mult) gRepE := .of op_repE fun H m S x y dx dy d q rx ry e => by
  unfold gRepE at e
  split at e
  · rename_i k e1
    split at e
    · rename_i hz
      cases e
      obtain ⟨a, vs, rfl, h1, r⟩ := vw_tup rx e1
      cases ry
      cases r
      exact ⟨a, k, rfl, rfl, SqT.of h1, hz.1, hz.2, qv_same q (.tup h1 .nil)⟩
    · cases e
  · cases e
/-- a list, a tuple, a number: times a number -/
def gMulX : G2 := fun S x y => ((gMulI S x y).or (gRepL S x y)).or ((gRepT S x y).or (gRepE S x y))
theorem opl_mulX : OpL X (binaryOp .Mult) gMulX := (opl_mulI.or opl_repL).or (opl_repT.or opl_repE)
end
end MP

/-! a tuple backwards -/
namespace MP
open PySem PySem.Spec PyProof.Rows L2 HT
section
variable {prog : Program} {w : World} {A : Around} {E : Value → Shared → Prop} {s : Shared}
end
def gRevT (S : Sto) (d : D) : Option D := match vw S d with
  | .tup xs => some (.tup xs.reverse)
  | _ => none
section
variable {X : Cx} {e b : Expr} {le lb : LE} {k : Nat} {p1 p2 p3 pos : Pos}
end
end MP

/-! list(a text): its signs -/
namespace MP
open PySem PySem.Spec PyProof.Rows L2
section
variable {prog : Program} {w : World} {A : Around} {E : Value → Shared → Prop} {s : Shared}
/-- the signs of a text, one by one -/
def sgsD (x : Str) : List D := x.cps.toList.map fun c => D.str ⟨#[c]⟩
end
/-- list(a text), put into the store -/
def lListS (t : LA) : LE := fun ρ S => (t ρ S).bind fun ds S1 => match ds with
  | [.str x] => if x.length ≤ 1000 then .ok (.ref S1.length) (S1 ++ [.lst (sgsD x)]) else .bad
  | _ => .bad
end MP

/-! i not in range(a, b) -/
namespace MP
open PySem PySem.Spec PyProof.Rows L2
section
variable {X : Cx}
def lNotRng (le : LE) (t : LA) : LE := fun ρ S => (le ρ S).bind fun x S1 => (t ρ S1).bind fun ds S2 => match x, ds with
  | .int i, [.int a, .int b] => .ok (.bl (!decide (a ≤ i ∧ i < b))) S2
  | _, _ => .bad
end
end MP

/-! {text: text}, its repr -/
namespace MP
open PySem PySem.Spec PyProof.Rows L2
section
variable {X : Cx}
def gReprK1 : GC := fun _ ds => match ds with
  | [.dct false [(.str k, .str v)]] => if (PyData.dict [(.str k, .str v)]).shown.length ≤ sizeLine then some (.str (PyData.dict [(.str k, .str v)]).shown) else none
  | _ => none
end
end MP

/-! isinstance of any datum: text, tuple -/
namespace MP
open PySem PySem.Spec PyProof.Rows L2
def tabStrA : Tab
  | .str => some true
  | .obj _ => none
  | _ => some false
theorem isi_strA {K : PySem.W.Frag} : IsiOk K (.type "str") tabStrA := ⟨fun t b h => by
  cases t with
  | obj C => cases h
  | _ => first
    | (cases h; exact ⟨kit_ty (by decide +kernel), fun C z => nomatch z⟩)
    | skip⟩
def tabTupA : Tab
  | .tup => some true
  | .obj _ => none
  | _ => some false
theorem isi_tupleA {K : PySem.W.Frag} : IsiOk K (.type "tuple") tabTupA := ⟨fun t b h => by
  cases t with
  | obj C => cases h
  | _ => first
    | (cases h; exact ⟨kit_ty (by decide +kernel), fun C z => nomatch z⟩)
    | skip⟩
end MP

/-! sets of tuples of numbers and texts: the search, an insertion (HandS.TupSets has them for tuples of ints) -/
namespace MP
open PySem PySem.Spec PyProof.Rows L2
/-- the hash of such a tuple -/
abbrev hT (P : Program) (w : World) (k : List Key) : Int := tupleKeyHash (mixKind P w) k
abbrev TuK (P : Program) (w : World) (h : Heap) (k : List Key) (a : Addr) : Prop := IsTupleKey (mixKind P w) h k a
/-- the probe behind c steps -/
abbrev stp (t : SetTable) (h : Int) (c : Nat) : SetTable.Probe := nth t.mask (t.probeStart h) c
theorem stp_dummy (t : SetTable) (h : Int) (c : Nat) : (stp t h c).dummy = none := by
  have key : ∀ (n : Nat) (p : SetTable.Probe), p.dummy = none → (nth t.mask p n).dummy = none := fun n => by
    induction n with
    | zero => exact fun p q => q
    | succ n ih =>
      refine fun p q => ih (adv t.mask p) ?_
      unfold adv
      split
      · exact q
      · exact q
  exact key c _ rfl
theorem stp_add (t : SetTable) (h : Int) (c q : Nat) : nth t.mask (stp t h c) q = stp t h (c + q) := (nth_add t.mask c (t.probeStart h) q).symm
def entT (P : Program) (w : World) (p : Addr × List Key) : Int × Value := (hT P w p.2, .ref p.1)
/-- at a: a set of the tuples L, with a table that can be walked -/
structure StT (P : Program) (w : World) (h : Heap) (a : Addr) (L : List (Addr × List Key)) (es : Array (Int × Value)) (ep : Nat) (t : SetTable) : Prop where
  obj : ∃ o, h.get? a = some o ∧ o.ExactSet ∧ o.data = .set es ep t
  ent : es.toList = L.map (entT P w)
  tab : TabOk t (L.map fun p => hT P w p.2)
  once : (L.map (·.2)).Nodup
  keys : ∀ p ∈ L, TuK P w h p.2 p.1
  led : w.params.followText "set-order" = true ∨ t.led = true
  room : L.length * 5 < t.mask * 3
  few : L.length < 64
section
variable {P : Program} {w : World} {A : Around} {E : Value → Shared → Prop} {s : Shared} {a : Addr} {L : List (Addr × List Key)} {es : Array (Int × Value)} {ep : Nat} {t : SetTable}
theorem item_scan {k : List Key} {vs : List Value} (h : ItemsAre (mixKind P w) k vs) : ∀ v ∈ vs, v.scannable = true := by
  induction h with
  | nil => exact fun v hv => nomatch hv
  | @cons k0 v' ks vs h1 _ ih =>
    intro v hv
    rcases List.mem_cons.mp hv with rfl | hv
    · rcases keyIs_shape h1 with ⟨i, t, _, rfl⟩ | ⟨x, t, _, rfl⟩ <;> rfl
    · exact ih v hv
theorem class_scan {v : Value} (h : v.scannable = true) (n : Nat) : ofAClassStatement n v = pure false := by
  cases v with
  | ref _ => cases h
  | _ => cases n <;> rfl
theorem class_tuK {k : List Key} {b : Addr} {Q : Bool → Shared → Prop} (hk : TuK P w s.heap k b) (q : Q false s) : wpAny (model P w) A (ofAClassStatement 8 (.ref b)) Q E s := by
  have ty := hk.typeIs
  obtain ⟨o, its, n, ho, _, hd, hi⟩ := hk
  unfold ofAClassStatement
  refine wpAny_bind (wpAny_typeOf ty ?_)
  dsimp only
  simp only [show (("tuple" : String) == "tuple") = true by decide, if_true, Bool.not_true, Bool.false_eq_true, if_false]
  try refine wpAny_bind (wpAny_pure ?_)
  try simp only [Bool.not_true, Bool.false_eq_true, if_false]
  show wpAny _ _ (seqItems? (.ref b) >>= _) _ _ s
  refine wpAny_bind (wpAny_seqItems ho hd ?_)
  dsimp only
  refine wpAny_bind ?_
  show wpAny _ _ (forIn its _ _) _ _ s
  rw [← Array.forIn_toList]
  refine wpAny_forIn_list _ (fun rest r s1 => (∀ v ∈ rest, v.scannable = true) ∧ r.1 = none ∧ s1 = s) _ ?_ ?_ _ _ ⟨item_scan hi, rfl, rfl⟩
  · rintro v rest r s1 ⟨hall, hr, rfl⟩
    rw [class_scan (hall v List.mem_cons_self)]
    refine wpAny_bind (wpAny_pure ?_)
    simp only [Bool.false_eq_true, if_false]
    exact wpAny_pure ⟨fun u hu => hall u (List.mem_cons_of_mem _ hu), rfl, rfl⟩
  · rintro ⟨r1, r2⟩ s1 ⟨_, hr, rfl⟩
    simp only at hr
    subst hr
    exact wpAny_pure q
theorem value_scan {v : Value} (h : v.scannable = true) (n : Nat) : ∃ b, hashByValue n v = pure b := by
  cases v with
  | ref _ => cases h
  | _ => first | (cases h; done) | (refine ⟨true, ?_⟩; cases n <;> rfl) | (refine ⟨false, ?_⟩; cases n <;> rfl)
theorem value_tuK {k : List Key} {b : Addr} {Q : Bool → Shared → Prop} (hk : TuK P w s.heap k b) (q : ∀ c, Q c s) : wpAny (model P w) A (hashByValue 8 (.ref b)) Q E s := by
  have ty := hk.typeIs
  obtain ⟨o, its, n, ho, _, hd, hi⟩ := hk
  unfold hashByValue
  refine wpAny_bind (wpAny_specialOf ty F.slot_tuple_hash.lookup ?_)
  show wpAny _ _ (seqItems? (.ref b) >>= _) _ _ s
  refine wpAny_bind (wpAny_seqItems ho hd ?_)
  refine wpAny_bind ?_
  show wpAny _ _ (forIn its _ _) _ _ s
  rw [← Array.forIn_toList]
  refine wpAny_forIn_list _ (fun rest r s1 => (∀ v ∈ rest, v.scannable = true) ∧ s1 = s) _ ?_ ?_ _ _ ⟨item_scan hi, rfl⟩
  · rintro v rest r s1 ⟨hall, rfl⟩
    obtain ⟨c, hc⟩ := value_scan (hall v List.mem_cons_self) 7
    have nx : ∀ u ∈ rest, u.scannable = true := fun u hu => hall u (List.mem_cons_of_mem _ hu)
    rw [hc]
    refine wpAny_bind (wpAny_pure ?_)
    cases c with
    | true =>
      simp only [Bool.not_true, Bool.false_eq_true, if_false]
      exact wpAny_pure ⟨nx, rfl⟩
    | false =>
      simp only [Bool.not_false, if_true]
      exact wpAny_pure (wpAny_pure (q _))
  · rintro ⟨r1, r2⟩ s1 ⟨_, rfl⟩
    cases r1 with
    | none => exact wpAny_pure (q _)
    | some c => exact wpAny_pure (q _)
/-- a search shows nothing of the table -/
theorem unseen {k : List Key} {b : Addr} {Q : Bool → Shared → Prop} (hk : TuK P w s.heap k b) {ys : List Value} (hy : ∀ y ∈ ys, ∃ j c, TuK P w s.heap j c ∧ y = .ref c) (q : Q false s) :
    wpAny (model P w) A (searchCouldBeSeen (.ref b) ys) Q E s := by
  unfold searchCouldBeSeen
  refine wpAny_bind ?_
  refine wpAny_forIn_list _ (fun rest r s1 => (∀ y ∈ rest, ∃ j c, TuK P w s1.heap j c ∧ y = Value.ref c) ∧ r.1 = none ∧ s1 = s) _ ?_ ?_ _ _ ⟨hy, rfl, rfl⟩
  · rintro v rest r s1 ⟨hall, hr, rfl⟩
    obtain ⟨j, c, hc, rfl⟩ := hall v List.mem_cons_self
    have nx := fun u hu => hall u (List.mem_cons_of_mem _ hu)
    dsimp only
    by_cases hv : (b == c || (carriedByValue (.ref b) && carriedByValue (.ref c))) = true
    · exact wp_if_pos hv (wpAny_pure ⟨nx, rfl, rfl⟩)
    · refine wp_if_neg hv ?_
      refine wpAny_bind (wpAny_eqIsQuiet_tuple hk ?_)
      simp only [Bool.not_true, Bool.false_eq_true, if_false]
      refine wpAny_bind (wpAny_eqIsQuiet_tuple hc ?_)
      simp only [Bool.not_true, Bool.false_eq_true, if_false]
      refine wpAny_bind (class_tuK hk ?_)
      simp only [Bool.false_eq_true, if_false]
      refine wpAny_bind (class_tuK hc ?_)
      simp only [Bool.false_eq_true, if_false]
      exact wpAny_pure ⟨nx, rfl, rfl⟩
  · rintro ⟨r1, r2⟩ s1 ⟨_, hr, rfl⟩
    simp only at hr
    subst hr
    exact wpAny_pure q
theorem StT.size (R : StT P w s.heap a L es ep t) : es.size = L.length := by
  have q := congrArg List.length R.ent
  simpa using q
theorem StT.psize (R : StT P w s.heap a L es ep t) : t.place.toList.length = L.length := by
  have q := R.tab.sz
  rw [List.length_map] at q
  rw [Array.length_toList, q]
theorem StT.fits (R : StT P w s.heap a L es ep t) : t.fits es.size = true := by
  have q1 := R.psize
  have q2 := R.size
  have q3 := R.room
  rw [Array.length_toList] at q1
  unfold SetTable.fits SetTable.fill
  rw [R.tab.dm, Bool.and_eq_true, beq_iff_eq, decide_eq_true_eq]
  show t.place.size = es.size ∧ t.place.size + 0 ≤ t.mask
  omega
theorem StT.at_ (R : StT P w s.heap a L es ep t) {i : Nat} {p : Addr × List Key} (h : L[i]? = some p) : es[i]? = some (entT P w p) := by
  rw [← Array.getElem?_toList, R.ent, List.getElem?_map, h]
  rfl
theorem StT.sound (R : StT P w s.heap a L es ep t) : ¬ t.gaveWay = true := by
  unfold SetTable.gaveWay
  rw [mask_odd R.tab.mok]
  decide
/-- the search for k from the c-th step on; K: the first empty place on the way -/
theorem StT.search (R : StT P w s.heap a L es ep t) {x : Addr} {k : List Key} (hx : TuK P w s.heap k x) (hu : A.units < cLine) {K : Nat} (big : K < 10 * SetTable.turns t.mask) (free : way t.mask (hT P w k) K ∉ t.place.toList)
    (taken : ∀ c, c < K → way t.mask (hT P w k) c ∈ t.place.toList) {Q : SetFound → Shared → Prop} (yes : k ∈ L.map (·.2) → Q (.there none) s) (no : k ∉ L.map (·.2) → Q (.free (way t.mask (hT P w k) K) false) s) :
    ∀ (f c : Nat) (stand : Option SetTable.Probe), c ≤ K → K - c < f → stand.getD (t.probeStart (hT P w k)) = stp t (hT P w k) c →
      (∀ (i : Nat) (p : Addr × List Key), L[i]? = some p → p.2 = k → ∃ d, c ≤ d ∧ d < K ∧ t.place.toList[i]? = some (way t.mask (hT P w k) d)) → wpAny (model P w) A (setSearchFrom a (.ref x) (hT P w k) true f stand) Q E s := by
  intro f
  induction f with
  | zero => exact fun c stand _ z => absurd z (Nat.not_lt_zero _)
  | succ f ih =>
    intro c stand hc hf hst left
    obtain ⟨o, ho, hex, hd⟩ := R.obj
    rw [setSearchFrom_succ]
    refine wpAny_bind (wpAny_setState_of ho hd R.fits ?_)
    dsimp only
    refine wp_if_neg R.sound ?_
    try refine wpAny_bind (wpAny_pure ?_)
    have jj : ∀ q, (nth t.mask (stp t (hT P w k) c) q).j = way t.mask (hT P w k) (c + q) := fun q => congrArg SetTable.Probe.j (stp_add t (hT P w k) c q)
    have eK : c + (K - c) = K := by omega
    have hh : ∀ (i : Nat) p, L[i]? = some p → (es[i]?.map (·.1)).getD 0 = hT P w p.2 := fun i p hp => by rw [R.at_ hp]; rfl
    rw [hst]
    rcases go_spec t R.tab.ris R.tab.dm (fun i => (es[i]?.map (·.1)).getD 0) (hT P w k) (10 * SetTable.turns t.mask) (K - c) (stp t (hT P w k) c) (stp_dummy _ _ _) (by omega) (fun q hq => by rw [jj]; exact taken _ (by omega)) (by rw [jj, eK]; exact free) with ⟨q, i, hq, hi, he, before, pr⟩ | ⟨before, pr⟩
    · rw [jj] at hi pr
      rw [stp_add] at pr
      rw [show t.probe (fun i => (es[i]?.map (·.1)).getD 0) (hT P w k) (stp t (hT P w k) c) = some (.candidate (way t.mask (hT P w k) (c + q)) i (stp t (hT P w k) (c + (q + 1)))) from pr]
      dsimp only
      have il : i < L.length := by
        have z := (List.getElem?_eq_some_iff.mp hi).1
        have y := R.psize
        omega
      obtain ⟨p, hp⟩ : ∃ p, L[i]? = some p := ⟨L[i], List.getElem?_eq_getElem il⟩
      have pm : p ∈ L := List.mem_of_getElem? hp
      have live : t.slot (way t.mask (hT P w k) (c + q)) = .live i := slot_live R.tab.ris hi
      have rest : wpAny (model P w) A (searchRest a (.ref x) (hT P w k) true f es t (way t.mask (hT P w k) (c + q)) i (stp t (hT P w k) (c + (q + 1)))) Q E s := by
        unfold searchRest
        rw [R.at_ hp]
        dsimp only [entT]
        refine wpAny_bind (wpAny_holding (wpAny_eqBool_tuple hu (R.keys p pm) hx ?_))
        refine wpAny_bind (wpAny_setState_of ho hd R.fits ?_)
        dsimp only
        by_cases same : p.2 = k
        · exact wp_if_pos (by simp [same]) (wpAny_pure (yes (List.mem_map.mpr ⟨p, pm, same⟩)))
        · refine wp_if_neg (by simp [same]) ?_
          try refine wpAny_bind (wpAny_pure ?_)
          rw [sameMem]
          dsimp only
          simp only [if_true, live, R.at_ hp, entT]
          refine wpAny_bind (wpAny_isSame_ref_self (wpAny_bind (wpAny_pure ?_)))
          simp only [if_true]
          refine wp_if_neg (by simp [same]) ?_
          refine ih (c + (q + 1)) _ (by omega) (by omega) rfl fun i0 p0 h0 e0 => ?_
          obtain ⟨d, d1, d2, d3⟩ := left i0 p0 h0 e0
          refine ⟨d, ?_, d2, d3⟩
          by_cases z1 : d < c + q
          · refine absurd ((hh i0 p0 h0).trans (congrArg (hT P w) e0)) (before (d - c) i0 (by omega) ?_)
            rw [jj, show c + (d - c) = d by omega]
            exact d3
          · by_cases z2 : d = c + q
            · exfalso
              rw [z2] at d3
              have y := slot_live R.tab.ris d3
              rw [live] at y
              injection y with y
              rw [← y, hp] at h0
              cases h0
              exact same e0
            · omega
      by_cases hl : t.led = true
      · refine wp_if_neg (by simp [hl]) ?_
        try refine wpAny_bind (wpAny_pure ?_)
        exact rest
      · refine wp_if_pos (by simp [hl]) (wpAny_bind (unseen hx (fun y hy => ?_) ?_))
        · obtain ⟨e, he1, rfl⟩ := List.mem_map.mp hy
          have he2 : e ∈ es.toList := by
            have : e ∈ es ∧ e.1 = hT P w k := by simpa using he1
            simpa using this.1
          rw [R.ent] at he2
          obtain ⟨p2, hp2, rfl⟩ := List.mem_map.mp he2
          exact ⟨p2.2, p2.1, R.keys p2 hp2, rfl⟩
        · refine wp_if_neg (by decide) ?_
          try refine wpAny_bind (wpAny_pure ?_)
          exact rest
    · rw [jj, eK] at pr
      rw [show t.probe (fun i => (es[i]?.map (·.1)).getD 0) (hT P w k) (stp t (hT P w k) c) = some (.empty (way t.mask (hT P w k) K) none) from pr]
      dsimp only
      refine wpAny_pure (no fun hm => ?_)
      obtain ⟨p0, m0, e0⟩ := List.mem_map.mp hm
      obtain ⟨i0, h0⟩ := List.mem_iff_getElem?.mp m0
      obtain ⟨d, d1, d2, d3⟩ := left i0 p0 h0 e0
      refine before (d - c) i0 (by omega) ?_ ((hh i0 p0 h0).trans (congrArg (hT P w) e0))
      rw [jj, show c + (d - c) = d by omega]
      exact d3
/-- the search that an insertion makes -/
theorem StT.find (R : StT P w s.heap a L es ep t) {x : Addr} {k : List Key} (hx : TuK P w s.heap k x) (hu : A.units < cLine) {Q : SetFound → Shared → Prop} (yes : k ∈ L.map (·.2) → Q (.there none) s)
    (no : ∀ K, k ∉ L.map (·.2) → way t.mask (hT P w k) K ∉ t.place.toList → (∀ c, c < K → way t.mask (hT P w k) c ∈ t.place.toList) → Q (.free (way t.mask (hT P w k) K) false) s) :
    wpAny (model P w) A (setSearch a (.ref x) (hT P w k) true) Q E s := by
  have q := R.room
  obtain ⟨K, k1, k2, k3⟩ := R.tab.first (by rw [List.length_map]; omega) (hT P w k)
  have small : 10 * SetTable.turns t.mask ≤ 1420 := by
    unfold SetTable.turns
    rcases R.tab.mok with e | e | e <;> omega
  unfold setSearch
  refine R.search hx hu k1 k2 k3 yes (fun z => no K z k2 k3) 100000 0 none (Nat.zero_le _) (by omega) rfl fun i p hp e => ?_
  have hi : (L.map fun p => hT P w p.2)[i]? = some (hT P w k) := by rw [List.getElem?_map, hp, ← e]; rfl
  have il : i < t.place.toList.length := by
    rw [R.psize]
    exact (List.getElem?_eq_some_iff.mp hp).1
  obtain ⟨d, d1, d2⟩ := R.tab.before k2 hi (List.getElem?_eq_getElem il)
  exact ⟨d, Nat.zero_le _, d1, by rw [List.getElem?_eq_getElem il, d2]⟩
end
end MP

/-! sets of tuples of numbers and texts: an insertion -/
namespace MP
open PySem PySem.Spec PyProof.Rows L2
section
variable {P : Program} {w : World} {A : Around} {E : Value → Shared → Prop} {s : Shared} {a : Addr} {L : List (Addr × List Key)} {es : Array (Int × Value)} {ep : Nat} {t : SetTable}
theorem reorder {order : Array Nat} (he : es.toList = L.map (entT P w)) (hp : order.toList.Perm (List.range L.length)) :
    ∃ L2 : List (Addr × List Key), (order.filterMap (es[·]?)).toList = L2.map (entT P w) ∧ L2.Perm L ∧ (L2.map fun p => hT P w p.2) = order.toList.map fun i => (es.map (·.1)).getD i 0 := by
  have ge : ∀ i, es[i]? = (L[i]?).map (entT P w) := fun i => by rw [← Array.getElem?_toList, he, List.getElem?_map]
  refine ⟨order.toList.filterMap fun i => L[i]?, ?_, ?_, ?_⟩
  · rw [List.map_filterMap, Array.toList_filterMap]
    exact congrArg (fun f => List.filterMap f order.toList) (funext ge)
  · refine (hp.filterMap _).trans (List.Perm.of_eq ?_)
    have q := PySem.W.krv_all L.toArray
    simpa using q
  · have key : ∀ l : List Nat, (∀ i ∈ l, i < L.length) → ((l.filterMap fun i => L[i]?).map fun p => hT P w p.2) = l.map fun i => (es.map (·.1)).getD i 0 := by
      intro l
      induction l with
      | nil => exact fun _ => rfl
      | cons i l ih =>
        intro h
        have hi := h i List.mem_cons_self
        rw [List.filterMap_cons_some (List.getElem?_eq_getElem hi), List.map_cons, List.map_cons, ih fun j hj => h j (List.mem_cons_of_mem _ hj)]
        congr 1
        have e : (es.map (·.1))[i]? = some (hT P w (L[i]).2) := by
          rw [Array.getElem?_map, ge, List.getElem?_eq_getElem hi]
          rfl
        rw [Array.getD_eq_getD_getElem?, e]
        rfl
    exact key order.toList fun i hi => List.mem_range.mp (hp.mem_iff.mp hi)
theorem TuK.but {h h' : Heap} {k : List Key} {b : Addr} {o : Obj} (q : TuK P w h k b) (ho : h.get? a = some o) (hd : o.data = .set es ep t) (sb : Heap.SameBut a h h') : TuK P w h' k b := by
  obtain ⟨o1, its, n, h1, h2, h3, h4⟩ := q
  refine ⟨o1, its, n, (sb.2 b fun z => ?_).trans h1, h2, h3, h4⟩
  rw [z, ho] at h1
  cases h1
  rw [hd] at h3
  cases h3
/-- the table laid anew, wider -/
theorem relay_tuK {o : Obj} (ho : s.heap.get? a = some o) (hex : o.ExactSet) (hd : o.data = .set es ep t) (he : es.toList = L.map (entT P w)) (hdm : t.dummies = #[]) (hps : t.place.size = es.size) (hfl : es.size ≤ t.mask) (once : (L.map (·.2)).Nodup)
    (keys : ∀ p ∈ L, TuK P w s.heap p.2 p.1) (led : w.params.followText "set-order" = true ∨ t.led = true) (few : L.length < 64) {wanted M : Nat} (hM : MaskOk M) (hw : SetTable.sizeAbove wanted - 1 = M) (hw2 : SetTable.sizeAbove wanted ≤ 128)
    (room : L.length * 5 < M * 3) {Q : Unit → Shared → Prop} (q : ∀ h1 L1 es1 ep1 t1, Heap.SameBut a s.heap h1 → L1.Perm L → StT P w h1 a L1 es1 ep1 t1 → Q () { s with heap := h1 }) : wpAny (model P w) A (setRelay a wanted) Q E s := by
  have sz : es.size = L.length := by simpa using congrArg List.length he
  have fit : t.fits es.size = true := by
    unfold SetTable.fits SetTable.fill
    rw [hdm, Bool.and_eq_true, beq_iff_eq, decide_eq_true_eq]
    show t.place.size = es.size ∧ t.place.size + 0 ≤ t.mask
    omega
  obtain ⟨t1, order, r1, r2, r3, r4, r5, _, _⟩ := relaid_ok t (hs := es.map (·.1)) (wanted := wanted) hw hM (by rw [Array.size_map, sz]; omega)
  rw [Array.size_map, sz] at r2
  obtain ⟨L1, o1, o2, o3⟩ := reorder he r2
  rw [← o3] at r3
  have sz1 : (order.filterMap (es[·]?)).size = es.size := by
    have z := congrArg List.length o1
    rw [Array.length_toList, List.length_map, o2.length_eq] at z
    rw [z, sz]
  rw [setRelay_eq]
  refine wpAny_bind (wpAny_setState_of ho hd fit ?_)
  dsimp only
  refine wp_if_neg (by rw [sizeLine_eq]; omega) ?_
  try refine wpAny_bind (wpAny_pure ?_)
  rw [r1]
  dsimp only
  refine wpAny_bind (wp_if_neg (by rw [sz1]; simp) ?_)
  try refine wpAny_bind (wpAny_pure ?_)
  refine wpAny_pure ?_
  dsimp only
  have sb : Heap.SameBut a s.heap (s.heap.update a (Obj.putSet (order.filterMap (es[·]?)) t1)) := Heap.SameBut.update ..
  refine wpAny_storeSet_of ho hd (q _ L1 (order.filterMap (es[·]?)) (ep + 1) t1 sb o2 ?_) (by rw [sz1, sz, sizeLine_eq]; omega)
  exact ⟨⟨_, store_at ho hd, ⟨hex.1, hex.2.1, hex.2.2⟩, rfl⟩, o1, r3, (o2.map (·.2)).nodup_iff.mpr once, fun p hp => (keys p (o2.mem_iff.mp hp)).but ho hd sb, by rw [r5]; exact led, by rw [o2.length_eq, r4]; exact room, by rw [o2.length_eq]; exact few⟩
/-- k put in -/
theorem StT.add (R : StT P w s.heap a L es ep t) {x : Addr} {k : List Key} (hx : TuK P w s.heap k x) (hu : A.units < cLine) (few : L.length + 1 < 64) {Q : Bool → Shared → Prop}
    (q : ∀ b h1 L1 es1 ep1 t1, Heap.SameBut a s.heap h1 → StT P w h1 a L1 es1 ep1 t1 → (k ∈ L.map (·.2) ∧ L1 = L ∨ k ∉ L.map (·.2) ∧ L1.Perm ((x, k) :: L)) → Q b { s with heap := h1 }) :
    wpAny (model P w) A (setAddHashed a (.ref x) (hT P w k)) Q E s := by
  obtain ⟨o, ho, hex, hd⟩ := R.obj
  have sz := R.size
  have rm := R.room
  unfold setAddHashed
  refine wpAny_holding ?_
  rw [show (100000 : Nat) = 99999 + 1 from rfl, setAddHashedIn_succ]
  refine wpAny_bind (wpAny_setState_of ho hd R.fits ?_)
  dsimp only
  refine wp_if_neg (by simp [byScan, Value.scannable]) ?_
  try refine wpAny_bind (wpAny_pure ?_)
  refine wpAny_bind (R.find hx hu (fun z => ?_) fun K z k2 k3 => ?_)
  · dsimp only
    exact wpAny_pure (q false s.heap L es ep t (Heap.SameBut.refl a s.heap) R (.inl ⟨z, rfl⟩))
  · dsimp only
    refine wpAny_bind (wpAny_setState_of ho hd R.fits ?_)
    dsimp only
    obtain ⟨u1, u2, u3, u4, u5, u6, u7, u8, u9⟩ := R.tab.put k2 k3
    rw [List.length_map] at u9
    generalize t.put (way t.mask (hT P w k) K) = tp at u1 u3 u4 u5 u9 ⊢
    obtain ⟨t1, pl⟩ := tp
    dsimp only at u1 u3 u4 u5 u9 ⊢
    subst u1
    obtain ⟨L1, hL1⟩ : ∃ L1, L1 = L.take (SetTable.below t.place (way t.mask (hT P w k) K)) ++ (x, k) :: L.drop (SetTable.below t.place (way t.mask (hT P w k) K)) := ⟨_, rfl⟩
    have pm : L1.Perm ((x, k) :: L) := by rw [hL1]; exact put_perm L _ (x, k)
    have tb : TabOk t1 (L1.map fun p => hT P w p.2) := by
      rw [hL1, List.map_append, List.map_cons, List.map_take, List.map_drop]
      exact u3
    have en : (SetTable.insertAt es (SetTable.below t.place (way t.mask (hT P w k) K)) (hT P w k, Value.ref x)).toList = L1.map (entT P w) := by
      rw [SetTable.toList_insertAt, R.ent, hL1, List.map_append, List.map_cons, List.map_take, List.map_drop]
      rfl
    generalize SetTable.insertAt es (SetTable.below t.place (way t.mask (hT P w k) K)) (hT P w k, Value.ref x) = es1 at en ⊢
    have len : L1.length = L.length + 1 := pm.length_eq
    have sz1 : es1.size = L.length + 1 := by
      have y := congrArg List.length en
      rw [Array.length_toList, List.length_map, len] at y
      exact y
    have once1 : (L1.map (·.2)).Nodup := (pm.map (·.2)).nodup_iff.mpr (List.nodup_cons.mpr ⟨z, R.once⟩)
    -- whether it goes by value: of no matter
    have go : ∀ (c : Bool) (t2 : SetTable), (t2 = t1 ∨ t2 = { t1 with plain := false }) → wpAny (model P w) A (do
        storeSet a es1 t2
        if (!false && t2.tooFull) = true then setRelay a (SetTable.grown (es.size + 1))
        return true) Q E s := by
      intro c t2 ht2
      have m2 : t2.mask = t.mask ∧ t2.led = t.led ∧ t2.fill = L.length + 1 ∧ TabOk t2 (L1.map fun p => hT P w p.2) ∧ t2.dummies = #[] ∧ t2.place.size = L.length + 1 := by
        have ps : t1.place.size = L.length + 1 := by rw [tb.sz, List.length_map, len]
        rcases ht2 with rfl | rfl
        · exact ⟨u4, u5, u9, tb, tb.dm, ps⟩
        · exact ⟨u4, u5, u9, ⟨tb.ris, tb.dm, tb.sz, tb.mok, tb.bd, tb.reach⟩, tb.dm, ps⟩
      obtain ⟨m2, l2, f2, tb2, dm2, ps2⟩ := m2
      have sb : Heap.SameBut a s.heap (s.heap.update a (Obj.putSet es1 t2)) := Heap.SameBut.update ..
      have ho1 := store_at (es' := es1) (t' := t2) ho hd
      refine wpAny_bind (wpAny_storeSet_of ho hd ?_ (by rw [sz1, sizeLine_eq]; omega))
      have keys1 : ∀ p ∈ L1, TuK P w (s.heap.update a (Obj.putSet es1 t2)) p.2 p.1 := fun p hp => by
        rcases List.mem_cons.mp (pm.mem_iff.mp hp) with rfl | hp
        · exact hx.but ho hd sb
        · exact (R.keys p hp).but ho hd sb
      generalize s.heap.update a (Obj.putSet es1 t2) = h1 at sb ho1 keys1 ⊢
      have led2 : w.params.followText "set-order" = true ∨ t2.led = true := by rw [l2]; exact R.led
      have hex1 : ({ o with data := Data.set es1 (ep + 1) t2 } : Obj).ExactSet := ⟨hex.1, hex.2.1, hex.2.2⟩
      by_cases full : t2.tooFull = true
      · have fl : (L.length + 1) * 5 ≥ t.mask * 3 := by
          have y := full
          unfold SetTable.tooFull at y
          rw [decide_eq_true_eq, f2, m2] at y
          exact y
        have two : (t.mask = 7 ∧ L.length = 4) ∨ (t.mask = 31 ∧ L.length = 18) := by
          rcases R.tab.mok with e | e | e
          · exact .inl ⟨e, by omega⟩
          · exact .inr ⟨e, by omega⟩
          · omega
        have turn : ∀ M, MaskOk M → SetTable.sizeAbove (SetTable.grown (es.size + 1)) - 1 = M → SetTable.sizeAbove (SetTable.grown (es.size + 1)) ≤ 128 → (L.length + 1) * 5 < M * 3 → wpAny (model P w) A (setRelay a (SetTable.grown (es.size + 1))) (fun _ s' => wpAny (model P w) A (pure true) Q E s') E { s with heap := h1 } := fun M g1 g2 g3 g4 =>
          relay_tuK (s := { s with heap := h1 }) ho1 hex1 rfl en dm2 (by rw [ps2, sz1]) (by rw [sz1, m2]; rcases two with ⟨e, e2⟩ | ⟨e, e2⟩ <;> omega) once1 keys1 led2 (by rw [len]; exact few) g1 g2 g3 (by rw [len]; exact g4) fun h2 L2 es2 ep2 t3 sb2 pm2 R2 =>
            wpAny_pure (q true h2 L2 es2 ep2 t3 (sb.trans sb2) R2 (.inr ⟨z, pm2.trans pm⟩))
        first
          | (refine wpAny_bind ?_; refine wp_if_pos (by simp [full]) ?_)
          | (refine wp_if_pos (by simp [full]) ?_; refine wpAny_bind ?_)
        rcases two with ⟨_, e⟩ | ⟨_, e⟩
        · exact turn 31 (.inr (.inl rfl)) (by rw [sz, e, size_20]) (by rw [sz, e, size_20]; decide) (by omega)
        · exact turn 127 (.inr (.inr rfl)) (by rw [sz, e, size_76]) (by rw [sz, e, size_76]; decide) (by omega)
      · have nf : (L.length + 1) * 5 < t.mask * 3 := by
          have y := full
          unfold SetTable.tooFull at y
          rw [decide_eq_true_eq, f2, m2] at y
          omega
        first
          | refine wp_if_neg (by simp [full]) ?_
          | (refine wpAny_bind ?_; refine wp_if_neg (by simp [full]) ?_; refine wpAny_pure ?_)
        exact wpAny_pure (q true h1 L1 es1 (ep + 1) t2 sb ⟨⟨_, ho1, hex1, rfl⟩, en, tb2, once1, keys1, led2, by rw [len, m2]; exact nf, by rw [len]; exact few⟩ (.inr ⟨z, pm⟩))
    cases pln : t1.plain with
    | true =>
      first
        | (refine wpAny_bind ?_; refine wp_if_pos rfl ?_; refine value_tuK hx fun c => ?_)
        | refine wp_if_pos rfl (wpAny_bind (value_tuK hx fun c => ?_))
      cases c with
      | true => exact go true t1 (.inl rfl)
      | false => exact go true _ (.inr rfl)
    | false =>
      first
        | (refine wpAny_bind ?_; refine wp_if_neg Bool.false_ne_true ?_; refine wpAny_pure ?_)
        | refine wp_if_neg Bool.false_ne_true (wpAny_bind (wpAny_pure ?_))
      exact go true t1 (.inl rfl)
end
end MP

/-! set(pairs of texts), of a list, of a tuple; sorted and counted -/
namespace MP
open PySem PySem.Spec PyProof.Rows L2
/-- what stands in the set behind the first i pairs -/
structure Met (ks : List (Addr × List Key)) (i : Nat) (L : List (Addr × List Key)) : Prop where
  old : ∀ p ∈ L, p ∈ ks.take i
  new : ∀ p ∈ ks.take i, p.2 ∈ L.map (·.2)
  len : L.length ≤ i
section
variable {P : Program} {w : World} {A : Around} {R : Result → Shared → Prop} {E : Value → Shared → Prop} {s : Shared}
theorem TuK.keep {h h' : Heap} {k : List Key} {b : Addr} (q : TuK P w h k b) (e : ∀ c o, h.get? c = some o → h'.get? c = some o) : TuK P w h' k b := by
  obtain ⟨o, its, n, ho, r⟩ := q
  exact ⟨o, its, n, e b o ho, r⟩
theorem StT.keep {h h' : Heap} {a : Addr} {L : List (Addr × List Key)} {es : Array (Int × Value)} {ep : Nat} {t : SetTable} (q : StT P w h a L es ep t) (ha : ∀ o, h.get? a = some o → h'.get? a = some o) (hk : ∀ p ∈ L, TuK P w h' p.2 p.1) : StT P w h' a L es ep t := by
  obtain ⟨o, ho, r⟩ := q.obj
  exact ⟨⟨o, ha o ho, r⟩, q.ent, q.tab, q.once, hk, q.led, q.room, q.few⟩
theorem stT_fresh {h : Heap} {a : Addr} (ho : h.get? a = some { cls := .type "set", dict := none, data := .set #[] 0 (.fresh 0 0 (!w.params.followText "set-order")) }) : StT P w h a [] #[] 0 (.fresh 0 0 (!w.params.followText "set-order")) where
  obj := ⟨_, ho, ⟨rfl, rfl, rfl⟩, rfl⟩
  ent := rfl
  tab := ⟨List.Pairwise.nil, rfl, rfl, .inl rfl, fun x hx => (nomatch hx), fun i h j hi => (by simp at hi)⟩
  once := .nil
  keys := fun p hp => nomatch hp
  led := by
    show _ ∨ (!w.params.followText "set-order") = true
    cases w.params.followText "set-order"
    · exact .inr rfl
    · exact .inl rfl
  room := (by decide : 0 * 5 < 7 * 3)
  few := (by decide : 0 < 64)
theorem loopT {It : Addr} {fp wr : List Addr} {G : Array GenState → Array GenState → Prop} {n : Nat} {Pv : Nat → Value → Prop} {St : Nat → Shared → Prop} (W : WalksS P w A.in1 It fp wr G n Pv St) (a : Addr) (ha : a ∉ fp) (ks : List (Addr × List Key)) (hn : ks.length = n) (hz : n < 64) (hu : A.in1.units < cLine)
    (hv : ∀ i v, Pv i v → ∃ p, ks[i]? = some p ∧ v = .ref p.1) (h0 : Heap) (hk : ∀ p ∈ ks, TuK P w h0 p.2 p.1) (ha0 : h0.get? a = none) (hw0 : ∀ b ∈ wr, h0.get? b = none) :
    ∀ (k i : Nat) (s : Shared), n - i = k → i ≤ n → St i s → (∀ b o, h0.get? b = some o → s.heap.get? b = some o) → (∃ L es ep t, StT P w s.heap a L es ep t ∧ Met ks i L) →
      (∀ s', Moved (a :: wr) G s s' → (∀ b o, h0.get? b = some o → s'.heap.get? b = some o) → (∃ L es ep t, StT P w s'.heap a L es ep t ∧ Met ks n L) → R (.ok (.ret .none)) s') →
      codeAny (model P w) A (.builtin "set.update.loop" ⟨[.ref a, .ref It], []⟩) R s := by
  have naw : a ∉ wr := fun z => ha (W.sub _ z)
  have sub : ∀ b ∈ wr, b ∈ a :: wr := fun b hb => List.mem_cons_of_mem _ hb
  have go : ∀ {s s' : Shared}, Moved wr G s s' → (∀ b o, h0.get? b = some o → s.heap.get? b = some o) → ∀ b o, h0.get? b = some o → s'.heap.get? b = some o := fun mv q b o e => mv.heap b o (fun z => by rw [hw0 b z] at e; cases e) (q b o e)
  intro k
  induction k with
  | zero =>
    intro i s e0 hi st q0 ⟨L, es, ep, t, hS, g⟩ hR
    obtain rfl : i = n := by omega
    refine codeAny_builtin PyProof.Rows.F.entry_set_update_loop ?_
    rw [Around.under_plainId PyProof.Rows.F.plain_set_update_loop _]
    show wpAny _ A.in1 (pyNext (.ref It) >>= _) _ _ s
    refine wpAny_bind (W.done s _ _ st fun s' mv => ?_)
    have q1 := go mv q0
    exact wpAny_pure (hR s' (mv.mono sub) q1 ⟨L, es, ep, t, hS.keep (fun o e => mv.heap a _ naw e) fun p hp => (hk p (List.mem_of_mem_take (g.old p hp))).keep q1, g⟩)
  | succ k ih =>
    intro i s e0 hi st q0 ⟨L, es, ep, t, hS, g⟩ hR
    have lt : i < n := by omega
    refine codeAny_builtin PyProof.Rows.F.entry_set_update_loop ?_
    rw [Around.under_plainId PyProof.Rows.F.plain_set_update_loop _]
    show wpAny _ A.in1 (pyNext (.ref It) >>= _) _ _ s
    refine wpAny_bind (W.item i s _ _ lt st fun v s' pv st' mv => ?_)
    obtain ⟨p, hp, rfl⟩ := hv i v pv
    have q1 := go mv q0
    have hS1 := hS.keep (h' := s'.heap) (fun o e => mv.heap a _ naw e) fun p hp => (hk p (List.mem_of_mem_take (g.old p hp))).keep q1
    have hx : TuK P w s'.heap p.2 p.1 := (hk p (List.mem_of_getElem? hp)).keep q1
    show wpAny _ A.in1 (holding [Value.ref p.1] (setAdd a (.ref p.1)) >>= _) _ _ s'
    refine wpAny_bind (wpAny_holding ?_)
    unfold setAdd
    refine wpAny_holding (wpAny_bind (wpAny_pyHash_tuple hu hx ?_))
    have gl := g.len
    refine StT.add (s := { s' with toks := s'.toks + (p.2.length + 1) }) hS1 hx hu (by omega) fun b h1 L1 es1 ep1 t1 hb hS2 hc => ?_
    have tk : ks.take (i + 1) = ks.take i ++ [p] := by rw [List.take_add_one, hp]; rfl
    have g1 : Met ks (i + 1) L1 := by
      rcases hc with ⟨hm, rfl⟩ | ⟨hm, pm⟩
      · refine ⟨fun x hx => ?_, fun x hx => ?_, by omega⟩
        · rw [tk]; exact List.mem_append_left _ (g.old x hx)
        · rw [tk] at hx
          rcases List.mem_append.mp hx with hx | hx
          · exact g.new x hx
          · rw [List.mem_singleton.mp hx]; exact hm
      · refine ⟨fun x hx => ?_, fun x hx => ?_, by rw [pm.length_eq, List.length_cons]; omega⟩
        · rw [tk]
          rcases List.mem_cons.mp (pm.mem_iff.mp hx) with rfl | hx
          · exact List.mem_append_right _ (List.mem_singleton.mpr rfl)
          · exact List.mem_append_left _ (g.old x hx)
        · rw [(pm.map (·.2)).mem_iff]
          rw [tk] at hx
          rcases List.mem_append.mp hx with hx | hx
          · exact List.mem_cons_of_mem _ (g.new x hx)
          · rw [List.mem_singleton.mp hx]; exact List.mem_cons_self
    have q2 : ∀ b o, h0.get? b = some o → h1.get? b = some o := fun b o e => (hb.2 b fun z => by rw [z, ha0] at e; cases e).trans (q1 b o e)
    refine wpAny_pure ⟨plainId_quiet PyProof.Rows.F.plain_set_update_loop _, ih (i + 1) _ (by omega) lt (W.frame _ s' _ _ st' (Nat.le_add_right _ _) fun b hb' o e => ?_) q2 ⟨L1, es1, ep1, t1, hS2, g1⟩ fun s'' mv2 q3 hS4 => ?_⟩
    · rw [hb.2 b fun z : b = a => ha (by rw [← z]; exact hb')]; exact e
    · refine hR s'' (Moved.trans W.gtrans ((mv.mono sub).then_heap (Nat.le_add_right _ _) fun b o hb' e => ?_) mv2) q3 hS4
      rw [hb.2 b fun z : b = a => hb' (by rw [z]; exact List.mem_cons_self)]; exact e
end
end MP

namespace MP
open PySem PySem.Spec PyProof.Rows L2
section
variable {P : Program} {w : World} {A : Around} {R : Result → Shared → Prop} {E : Value → Shared → Prop} {s : Shared}
end
end MP

/-! sorted(set(a tuple of pairs of texts)) as an expression -/
namespace MP
open PySem PySem.Spec PyProof.Rows L2
abbrev PS := Str × Str
def pdD (p : PS) : D := .tup [.str p.1, .str p.2]
def psOf : List D → Option (List PS)
  | [] => some []
  | .tup [.str a, .str b] :: r => (psOf r).map fun q => (a, b) :: q
  | _ => none
theorem psOf_eq : ∀ {xs : List D} {ps : List PS}, psOf xs = some ps → xs = ps.map pdD
  | [], ps, h => by simp only [psOf] at h; cases h; rfl
  | x :: r, ps, h => by
    unfold psOf at h
    split at h
    · cases ‹_ :: _ = []›
    · rename_i a b r' e
      cases e
      cases q : psOf r with
      | none => rw [q] at h; cases h
      | some q' => rw [q] at h; cases h; rw [psOf_eq q]; rfl
    · cases h
theorem psOf_map : ∀ ps : List PS, psOf (ps.map pdD) = some ps
  | [] => rfl
  | (a, b) :: ps => by
    show (psOf (ps.map pdD)).map _ = _
    rw [psOf_map ps]
    rfl
def kkP (p : PS) : List Key := [.inr p.1, .inr p.2]
theorem kkP_inj {p q : PS} (h : kkP p = kkP q) : p = q := by
  obtain ⟨a, b⟩ := p
  obtain ⟨c, d⟩ := q
  unfold kkP at h
  injection h with h1 h2
  injection h2 with h2 _
  injection h1 with h1
  injection h2 with h2
  exact Prod.ext h1 h2
def nubP : List PS → List PS
  | [] => []
  | x :: r => if x ∈ r then nubP r else x :: nubP r
theorem mem_nubP {k : PS} : ∀ {ys : List PS}, k ∈ nubP ys ↔ k ∈ ys
  | [] => Iff.rfl
  | x :: r => by
    unfold nubP
    split
    · rename_i h
      rw [mem_nubP (ys := r), List.mem_cons]
      exact ⟨.inr, fun z => z.elim (fun e => e ▸ h) id⟩
    · rw [List.mem_cons, List.mem_cons, mem_nubP (ys := r)]
theorem nodup_nubP : ∀ ys : List PS, (nubP ys).Nodup
  | [] => .nil
  | x :: r => by
    unfold nubP
    split
    · exact nodup_nubP r
    · rename_i h
      exact List.nodup_cons.mpr ⟨fun z => h (mem_nubP.mp z), nodup_nubP r⟩
/-- p not behind q -/
def leP (p q : PS) : Bool := !ltP q.1 q.2 p.1 p.2
def srtP (ps : List PS) : List PS := (nubP ps).mergeSort leP
theorem lt_tri {a b : Str} (h : a ≠ b) : a.cps.toList < b.cps.toList ∨ b.cps.toList < a.cps.toList := by
  by_cases q : a.cps.toList < b.cps.toList
  · exact .inl q
  · refine .inr ?_
    rcases List.le_total a.cps.toList b.cps.toList with z | z
    · exact absurd (Str.ext' (Array.toList_inj.mp (List.le_antisymm z (List.not_lt.mp q)))) h
    · refine Classical.byContradiction fun y => ?_
      exact h (Str.ext' (Array.toList_inj.mp (List.le_antisymm (List.not_lt.mp y) z)))
/-- q before p, in words -/
theorem ltP_iff {a b c d : Str} : ltP a b c d = true ↔ (a ≠ c ∧ a.cps.toList < c.cps.toList) ∨ (a = c ∧ b ≠ d ∧ b.cps.toList < d.cps.toList) := by
  unfold ltP
  by_cases h1 : a = c
  · rw [if_pos h1]
    by_cases h2 : b = d
    · rw [if_pos h2]
      simp [h1, h2]
    · rw [if_neg h2, decide_eq_true_eq]
      simp [h1, h2]
  · rw [if_neg h1, decide_eq_true_eq]
    simp [h1]
theorem ltP_tri {p q : PS} (h : p ≠ q) : ltP p.1 p.2 q.1 q.2 = true ∨ ltP q.1 q.2 p.1 p.2 = true := by
  by_cases h1 : p.1 = q.1
  · have h2 : p.2 ≠ q.2 := fun z => h (Prod.ext h1 z)
    rcases lt_tri h2 with z | z
    · exact .inl (ltP_iff.mpr (.inr ⟨h1, h2, z⟩))
    · exact .inr (ltP_iff.mpr (.inr ⟨h1.symm, Ne.symm h2, z⟩))
  · rcases lt_tri h1 with z | z
    · exact .inl (ltP_iff.mpr (.inl ⟨h1, z⟩))
    · exact .inr (ltP_iff.mpr (.inl ⟨Ne.symm h1, z⟩))
theorem ltP_asymm {p q : PS} (h : ltP p.1 p.2 q.1 q.2 = true) : ltP q.1 q.2 p.1 p.2 = false := by
  cases z : ltP q.1 q.2 p.1 p.2 with
  | false => rfl
  | true =>
    rcases ltP_iff.mp h with ⟨a1, a2⟩ | ⟨a1, a2, a3⟩
    · rcases ltP_iff.mp z with ⟨b1, b2⟩ | ⟨b1, _⟩
      · exact absurd b2 (List.lt_asymm a2)
      · exact absurd b1.symm a1
    · rcases ltP_iff.mp z with ⟨b1, _⟩ | ⟨b1, b2, b3⟩
      · exact absurd a1.symm b1
      · exact absurd b3 (List.lt_asymm a3)
theorem ltP_trans {p q r : PS} (h : ltP p.1 p.2 q.1 q.2 = true) (h' : ltP q.1 q.2 r.1 r.2 = true) : ltP p.1 p.2 r.1 r.2 = true := by
  rcases ltP_iff.mp h with ⟨a1, a2⟩ | ⟨a1, a2, a3⟩ <;> rcases ltP_iff.mp h' with ⟨b1, b2⟩ | ⟨b1, b2, b3⟩
  · have z := List.lt_trans a2 b2
    exact ltP_iff.mpr (.inl ⟨fun e => by rw [e] at z; exact List.lt_irrefl _ z, z⟩)
  · exact ltP_iff.mpr (.inl ⟨fun e => a1 (e.trans b1.symm), b1 ▸ a2⟩)
  · exact ltP_iff.mpr (.inl ⟨fun e => b1 (a1.symm.trans e), a1 ▸ b2⟩)
  · have z := List.lt_trans a3 b3
    exact ltP_iff.mpr (.inr ⟨a1.trans b1, fun e => by rw [e] at z; exact List.lt_irrefl _ z, z⟩)
theorem leP_iff {p q : PS} : leP p q = true ↔ p = q ∨ ltP p.1 p.2 q.1 q.2 = true := by
  unfold leP
  rw [Bool.not_eq_true']
  constructor
  · intro h
    by_cases e : p = q
    · exact .inl e
    · rcases ltP_tri e with z | z
      · exact .inr z
      · rw [h] at z; cases z
  · rintro (rfl | h)
    · cases z : ltP p.1 p.2 p.1 p.2 with
      | false => rfl
      | true =>
        have := ltP_asymm z
        rw [z] at this
        cases this
    · exact ltP_asymm h
theorem leP_trans (p q r : PS) (h : leP p q = true) (h' : leP q r = true) : leP p r = true := by
  rcases leP_iff.mp h with rfl | h
  · exact h'
  · rcases leP_iff.mp h' with rfl | h'
    · exact leP_iff.mpr (.inr h)
    · exact leP_iff.mpr (.inr (ltP_trans h h'))
theorem leP_total (p q : PS) : (leP p q || leP q p) = true := by
  rw [Bool.or_eq_true]
  by_cases e : p = q
  · exact .inl (leP_iff.mpr (.inl e))
  · exact (ltP_tri e).imp (fun z => leP_iff.mpr (.inr z)) fun z => leP_iff.mpr (.inr z)
def encP (p : PS) : PyData := .tuple [.str p.1, .str p.2]
theorem le_encP : PySem.W.dataLe false encP = leP := by
  funext p q
  show (!PySem.W.dataLt (.tuple [.str q.1, .str q.2]) (.tuple [.str p.1, .str p.2])) = leP p q
  rw [PySem.W.dataLt_pair (by simp [PySem.W.alike]) (by simp [PySem.W.alike]), PySem.W.dataLt_str, PySem.W.dataLt_str]
  unfold leP ltP
  simp only [PyData.eqv, beq_iff_eq]
theorem image {α β : Type} {f : α → β} {ks : List α} : ∀ L : List β, (∀ p ∈ L, ∃ q ∈ ks, p = f q) → ∃ L0 : List α, L = L0.map f ∧ ∀ q ∈ L0, q ∈ ks
  | [], _ => ⟨[], rfl, fun q hq => nomatch hq⟩
  | p :: L, h => by
    obtain ⟨q, hq, rfl⟩ := h p List.mem_cons_self
    obtain ⟨L0, e, hL⟩ := image L fun x hx => h x (List.mem_cons_of_mem _ hx)
    refine ⟨q :: L0, by rw [e]; rfl, fun x hx => ?_⟩
    rcases List.mem_cons.mp hx with rfl | hx
    · exact hq
    · exact hL x hx
section
variable {K : PySem.W.Frag} {m : List Addr} {H : Hp}
theorem vrs_ps : ∀ {ps : List PS} {vs : List V}, VRs K m H vs (ps.map pdD) → ∃ ks : List (Addr × PS), vs = ks.map (fun q => V.ref q.1) ∧ ks.map (·.2) = ps ∧ ∀ q ∈ ks, H q.1 = some (.tup [.str q.2.1, .str q.2.2])
  | [], _, .nil => ⟨[], rfl, rfl, fun q hq => nomatch hq⟩
  | p :: ps, _, .cons h r => by
    obtain ⟨ks, e1, e2, e3⟩ := vrs_ps r
    cases h with
    | @tup a us _ ha ra =>
      obtain ⟨x, y, rfl, rx, ry⟩ := ra.two
      cases rx
      cases ry
      refine ⟨(a, p) :: ks, by rw [e1]; rfl, by rw [List.map_cons, e2], fun q hq => ?_⟩
      rcases List.mem_cons.mp hq with rfl | hq
      · exact ha
      · exact e3 q hq
end
/-- sorted(set(a tuple of pairs of texts)) -/
def gSortSetP : GC := fun _ ds => match ds with
  | [.tup xs] => match psOf xs with
    | some ps => if ps.length < 64 then some (.lst ((srtP ps).map pdD)) else none
    | none => none
  | _ => none
end MP

/-! upper, {text: number}, isinstance of numbers and truths of any datum, is not True -/
namespace MP
open PySem PySem.Spec PyProof.Rows L2
section
variable {X : Cx}
def gNotB : G2 := fun _ x y => match x, y with
  | .bl a, .bl b => some (.bl (!decide (a = b)))
  | _, _ => none
theorem opl_notB : OpL X (compareOp .IsNot) gNotB := .of op_notBl fun H m S x y dx dy d q rx ry e => by
  unfold gNotB at e
  split at e
  · cases e
    cases rx
    cases ry
    exact ⟨_, _, rfl, rfl, qv_same q (.bl _)⟩
  · cases e
def lUpper (lo : LE) : LE := fun ρ S => (lo ρ S).bind fun d S1 => match d with
  | .str z => if z.length ≤ 100000 then .ok (.str (Txt.upper z)) S1 else .bad
  | _ => .bad
end
def tabIntA : Tab
  | .int => some true
  | .bl => some true
  | .obj _ => none
  | _ => some false
def tabBlA : Tab
  | .bl => some true
  | .obj _ => none
  | _ => some false
theorem isi_boolA {K : PySem.W.Frag} : IsiOk K (.type "bool") tabBlA := ⟨fun t b h => by
  cases t with
  | obj C => cases h
  | _ => first
    | (cases h; exact ⟨kit_ty (by decide +kernel), fun C z => nomatch z⟩)
    | skip⟩
end MP

/-! tuples of no dict of their own; dict(pairs) of a list, of such a tuple -/
namespace MP
open PySem PySem.Spec PyProof.Rows L2
section
variable {X : Cx}
/-- tuple(a list) -/
def gFTuple : GC := fun S ds => match ds with
  | [d] => match vw S d with
    | .lst xs => some (.ftup xs)
    | _ => none
  | _ => none
theorem cl_ftuple : CallL X (.type "tuple") gFTuple := ⟨fun pins s σ H m S xs ds d us I q r rv e => by
  unfold gFTuple at e
  split at e
  · split at e
    · rename_i ys e1
      cases e
      obtain ⟨v, rfl, w⟩ := r.one
      obtain ⟨a, vs, rfl, h1, r1⟩ := vw_lst q w e1
      rw [Vals.ref1 rv]
      obtain ⟨its, rv', pl, hz⟩ := I.list h1
      refine call_tuple_list pl.isList (fun h' hk => ?_) (by rw [List.size_toArray, ← rv'.length]; exact hz)
      have I1 : Inv X pins σ H { s with heap := h', toks := s.toks } := I.kept hk
      have hn : H h'.objs.size = none := I1.hok.fresh (Nat.le_refl _)
      exact ⟨.ref h'.objs.size, upd H h'.objs.size (.frz { cls := .type "tuple", data := .seq its.toArray } (.tup vs)), m, I1.laid (t' := s.toks) (o := .frz { cls := .type "tuple", data := .seq its.toArray } (.tup vs)) (fun b o e => Heap.get?_push_of_some _ e) (Nat.le_refl _) ⟨Heap.get?_push_size _ rfl, hz, its, rv', IsTup.new h' _⟩, rfl, Ext.fresh hn, q.fresh hn, .ftup rfl upd_same (r1.fresh q hn)⟩
    · cases e
  · cases e⟩
/-- () -/
def lTup0 : LE := fun _ S => .ok (.ftup []) S
theorem pel_tup0 {x1 : Nat} {pos : Pos} : PEL X (.Tuple [] x1 pos) lTup0 := by
  refine ⟨fun pins s σ H m ρ S I x r hp => ?_⟩
  have hp' : Hope X σ m H ((aNil ρ S).bind fun ds S1 => R.ok (D.ftup []) S1) := hp
  refine wpAny_Tuple_spliced (run_seqA pal_nil I x r hp' fun ds S1 q1 vs us s1 H1 m1 I1 rv e1 x1 w1 r1 hp1 => ?_)
  cases q1
  cases w1
  cases rv
  refine ⟨Nat.zero_le _, ?_⟩
  have hf : H1 s1.heap.objs.size = none := I1.hok.fresh (Nat.le_refl _)
  exact (vpr_of ⟨.ref s1.heap.objs.size, upd H1 s1.heap.objs.size (.frz { cls := .type "tuple", data := .seq #[] } (.tup [])), m1, I1.laid (t' := s1.toks) (o := .frz { cls := .type "tuple", data := .seq #[] } (.tup [])) (fun b u e => Heap.get?_push_of_some _ e) (Nat.le_refl _) ⟨Heap.get?_push_size _ rfl, Nat.zero_le _, [], .nil, _, Heap.get?_push_size _ rfl, rfl, _, rfl⟩, rfl, Ext.fresh hf, x1.fresh hf, .ftup rfl upd_same .nil⟩).left e1
end
/-! ### pairs -/
def kv1 : D → Option (D × D)
  | .tup [k, v] => (keyOf k).map fun _ => (k, v)
  | _ => none
def kvsOf : List D → Option (List (D × D))
  | [] => some []
  | x :: r => (kv1 x).bind fun p => (kvsOf r).map fun q => p :: q
def keysK (kvs : List (D × D)) : List Key := kvs.filterMap fun q => keyOf q.1
theorem kv1_inv {x : D} {p : D × D} (h : kv1 x = some p) : x = .tup [p.1, p.2] ∧ ∃ key, keyOf p.1 = some key := by
  unfold kv1 at h
  split at h
  · rename_i k v
    cases q : keyOf k with
    | none => rw [q] at h; cases h
    | some key => rw [q] at h; cases h; exact ⟨rfl, key, q⟩
  · cases h
def kv1T : D → Option (D × D)
  | .tup [.tup xs, v] => (keysOf xs).map fun _ => (.tup xs, v)
  | _ => none
def kvsOfT : List D → Option (List (D × D))
  | [] => some []
  | x :: r => (kv1T x).bind fun p => (kvsOfT r).map fun q => p :: q
def keysT (kvs : List (D × D)) : List (List Key) := kvs.filterMap fun q => kOf true q.1
theorem kv1T_inv {x : D} {p : D × D} (h : kv1T x = some p) : ∃ ks : List Key, x = .tup [.tup (ks.map keyD), p.2] ∧ p.1 = .tup (ks.map keyD) := by
  unfold kv1T at h
  split at h
  · rename_i xs v
    cases q : keysOf xs with
    | none => rw [q] at h; cases h
    | some ks => rw [q] at h; cases h; exact ⟨ks, by rw [← keysOf_inv q], by rw [← keysOf_inv q]⟩
  · cases h
theorem mergeK_nd : ∀ (ks acc : List (Key × V)), (acc.map (·.1) ++ ks.map (·.1)).Nodup → mergeK acc ks = acc ++ ks
  | [], acc, _ => by simp [mergeK]
  | k :: ks, acc, h => by
    have hn : (acc.any fun kv => decide (kv.1 = k.1)) = false := by
      rw [List.any_eq_false]
      intro x hx z
      have e := of_decide_eq_true z
      rw [List.map_cons, List.nodup_append] at h
      exact h.2.2 x.1 (List.mem_map_of_mem hx) k.1 List.mem_cons_self e
    have e : putK acc k.1 k.2 = acc ++ [k] := by
      unfold putK
      rw [hn, if_neg Bool.false_ne_true]
    show mergeK (putK acc k.1 k.2) ks = _
    rw [e, mergeK_nd ks (acc ++ [k]) (by simpa [List.append_assoc] using h)]
    simp
theorem merged_nd {κ : Type} [DecidableEq κ] : ∀ (ks acc : List (κ × Value)), (acc.map (·.1) ++ ks.map (·.1)).Nodup → merged acc ks = acc ++ ks
  | [], acc, _ => by simp [merged]
  | k :: ks, acc, h => by
    have hn : (acc.any fun kv => decide (kv.1 = k.1)) = false := by
      rw [List.any_eq_false]
      intro x hx z
      have e := of_decide_eq_true z
      rw [List.map_cons, List.nodup_append] at h
      exact h.2.2 x.1 (List.mem_map_of_mem hx) k.1 List.mem_cons_self e
    have e : stored acc k.1 k.2 = acc ++ [k] := by
      unfold stored
      rw [hn, if_neg Bool.false_ne_true]
    show merged (stored acc k.1 k.2) ks = _
    rw [e, merged_nd ks (acc ++ [k]) (by simpa [List.append_assoc] using h)]
    simp
theorem storedAll_nd {κ : Type} [DecidableEq κ] : ∀ (ks acc : List (κ × Addr × Value)), (acc.map (·.1) ++ ks.map (·.1)).Nodup → storedAllH acc ks = acc ++ ks
  | [], acc, _ => by simp [storedAllH]
  | k :: ks, acc, h => by
    have hn : atKey acc k.1 = none := by
      cases q : atKey acc k.1 with
      | none => rfl
      | some p =>
        exfalso
        unfold atKey at q
        rw [List.map_cons, List.nodup_append] at h
        have hm : k.1 ∈ acc.map (·.1) := by
          cases z : acc.find? (fun x => x.1 = k.1) with
          | none => rw [z] at q; cases q
          | some y =>
            have e := List.find?_some z
            have e' : y.1 = k.1 := by simpa using e
            rw [← e']
            exact List.mem_map_of_mem (List.mem_of_find?_eq_some z)
        exact h.2.2 k.1 hm k.1 List.mem_cons_self rfl
    show storedAllH (storedH acc k.1 k.2.1 k.2.2) ks = _
    rw [storedH_new hn, storedAll_nd ks (acc ++ [(k.1, k.2.1, k.2.2)]) (by simpa [List.append_assoc] using h)]
    simp
theorem paired_right {α β : Type} {F : α → β → Prop} : ∀ {l₁ : List α} {l₂ : List β}, Paired F l₁ l₂ → ∀ y ∈ l₂, ∃ x, F x y
  | _, _, .nil => fun y hy => nomatch hy
  | _, _, .cons h t => fun y hy => by
    rcases List.mem_cons.mp hy with rfl | hy
    · exact ⟨_, h⟩
    · exact paired_right t y hy
theorem paired_keys {α β γ : Type} {F : α × β → α × γ → Prop} : ∀ {l₁ : List (α × β)} {l₂ : List (α × γ)}, Paired F l₁ l₂ → (∀ x y, F x y → x.1 = y.1) → l₂.map (·.1) = l₁.map (·.1)
  | _, _, .nil, _ => rfl
  | _, _, .cons h t, g => by rw [List.map_cons, List.map_cons, g _ _ h, paired_keys t g]
section
variable {K : PySem.W.Frag} {m : List Addr} {H : Hp}
theorem kvs_paired : ∀ {xs : List D} {vs : List V} {kvs : List (D × D)}, VRs K m H vs xs → kvsOf xs = some kvs → ∃ (ps : List Addr) (ks : List (Key × V)), vs = ps.map V.ref ∧ Paired (fun p (kv : Key × V) => H p = some (.tup [kV kv.1, kv.2])) ps ks ∧ VDk K m H ks kvs ∧ ks.map (·.1) = keysK kvs
  | [], _, _, .nil, h => by simp only [kvsOf] at h; cases h; exact ⟨[], [], rfl, .nil, .nil, rfl⟩
  | x :: xs, v :: vs, kvs, .cons hx r, h => by
    simp only [kvsOf] at h
    cases q : kv1 x with
    | none => rw [q] at h; cases h
    | some p =>
      rw [q] at h
      cases q2 : kvsOf xs with
      | none => rw [q2] at h; cases h
      | some kvs' =>
        rw [q2] at h
        cases h
        obtain ⟨rfl, key, hk⟩ := kv1_inv q
        obtain ⟨ps, ks, e1, e2, e3, e4⟩ := kvs_paired r q2
        cases hx with
        | @tup a vs' _ h' r' =>
          obtain ⟨v1, v2, rfl, w1, w2⟩ := r'.two
          have ev := w1.key hk
          subst ev
          have ek := keyOf_inv hk
          refine ⟨a :: ps, (key, v2) :: ks, by rw [e1]; rfl, .cons h' e2, ?_, ?_⟩
          · obtain ⟨p1, p2⟩ := p
            dsimp only at ek w2 ⊢
            subst ek
            exact .cons w2 e3
          · show key :: ks.map (·.1) = keysK (p :: kvs')
            unfold keysK
            rw [List.filterMap_cons_some (f := fun q : D × D => keyOf q.1) (a := p) hk, e4]
            rfl
theorem kvs_pairedT : ∀ {xs : List D} {vs : List V} {kvs : List (D × D)}, VRs K m H vs xs → kvsOfT xs = some kvs → ∃ (ps : List (Addr × Addr)) (ks : List (List Key × V)), vs = ps.map (fun p => V.ref p.1) ∧ Paired (fun p (kv : List Key × V) => H p.1 = some (.tup [.ref p.2, kv.2]) ∧ H p.2 = some (.tup (kv.1.map kV))) ps ks ∧ VDt K m H ks kvs ∧ ks.map (·.1) = keysT kvs
  | [], _, _, .nil, h => by simp only [kvsOfT] at h; cases h; exact ⟨[], [], rfl, .nil, .nil, rfl⟩
  | x :: xs, v :: vs, kvs, .cons hx r, h => by
    simp only [kvsOfT] at h
    cases q : kv1T x with
    | none => rw [q] at h; cases h
    | some p =>
      rw [q] at h
      cases q2 : kvsOfT xs with
      | none => rw [q2] at h; cases h
      | some kvs' =>
        rw [q2] at h
        cases h
        obtain ⟨key, rfl, hk⟩ := kv1T_inv q
        obtain ⟨ps, ks, e1, e2, e3, e4⟩ := kvs_pairedT r q2
        cases hx with
        | @tup a vs' _ h' r' =>
          obtain ⟨v1, v2, rfl, w1, w2⟩ := r'.two
          cases w1 with
          | @tup b us _ hb rb =>
            have ev := rb.keys
            subst ev
            refine ⟨(a, b) :: ps, (key, v2) :: ks, by rw [e1]; rfl, .cons ⟨h', hb⟩ e2, ?_, ?_⟩
            · obtain ⟨p1, p2⟩ := p
              dsimp only at hk w2 ⊢
              subst hk
              exact .cons w2 e3
            · show key :: ks.map (·.1) = keysT (p :: kvs')
              unfold keysT
              rw [List.filterMap_cons_some (f := fun q : D × D => kOf true q.1) (a := p) (show kOf true p.1 = some key by rw [hk]; exact kf2.mpr rfl), e4]
              rfl
end
section
variable {X : Cx}
theorem pairs2 {pins : List (Addr × Obj)} {σ : L2.St} {H : Hp} {s : Shared} (I : Inv X pins σ H s) : ∀ {ps : List Addr} {ks : List (Key × V)}, Paired (fun p (kv : Key × V) => H p = some (.tup [kV kv.1, kv.2])) ps ks →
    ∃ (prs : List (Key × Value)) (pv : List (Value × Value)), KV ks prs ∧ prs.length = ps.length ∧ pv.length = ps.length ∧ ∀ (j : Nat) (u y : Value), pv[j]? = some (u, y) → ∃ (b : Addr) (k : Key), ps[j]? = some b ∧ prs[j]? = some (k, y) ∧ IsTup s.heap b #[u, y] ∧ keyIs k u = true
  | _, _, .nil => ⟨[], [], .nil, rfl, rfl, fun j u y e => by simp at e⟩
  | _, _, .cons (a := p) (b := kv) h t => by
    obtain ⟨prs, pv, r, hl, hl2, hp⟩ := pairs2 I t
    obtain ⟨its, rv, ht, _⟩ := I.tuple (SqT.of h)
    obtain ⟨u, y, ei, ru, ry⟩ := vals2 rv
    subst ei
    refine ⟨(kv.1, y) :: prs, (u, y) :: pv, .cons ⟨rfl, ry⟩ r, by rw [List.length_cons, List.length_cons, hl], by rw [List.length_cons, List.length_cons, hl2], fun j u' y' e => ?_⟩
    cases j with
    | zero =>
      have e' : (u, y) = (u', y') := Option.some.inj e
      cases e'
      exact ⟨p, kv.1, rfl, rfl, ht, kV_is (P := X.prog) (w := X.w) ru⟩
    | succ j =>
      obtain ⟨b, k, e1, e2, e3⟩ := hp j u' y' (by simpa using e)
      exact ⟨b, k, by simpa using e1, by simpa using e2, e3⟩
/-- dict(pairs), the keys numbers and texts, each once -/
def gDictK : GC := fun S ds => match ds with
  | [.lst xs] => (kvsOf xs).bind fun kvs => if (keysK kvs).Nodup ∧ kvs.length ≤ 100000 then some (.dct false kvs) else none
  | [.ftup xs] => (kvsOf xs).bind fun kvs => if (keysK kvs).Nodup ∧ kvs.length ≤ 100000 then some (.dct false kvs) else none
  | _ => none
theorem vdk_len {K : PySem.W.Frag} {m : List Addr} {H : Hp} : ∀ {ks : List (Key × V)} {kvs : List (D × D)}, VDk K m H ks kvs → ks.length = kvs.length
  | _, _, .nil => rfl
  | _, _, .cons _ r => by rw [List.length_cons, List.length_cons, vdk_len r]
theorem vdt_len {K : PySem.W.Frag} {m : List Addr} {H : Hp} : ∀ {ks : List (List Key × V)} {kvs : List (D × D)}, VDt K m H ks kvs → ks.length = kvs.length
  | _, _, .nil => rfl
  | _, _, .cons _ r => by rw [List.length_cons, List.length_cons, vdt_len r]
theorem cl_dictK (hc : X.calm = true) : CallL X (.type "dict") gDictK := ⟨fun pins s σ H m S xs ds d us I q r rv e => by
  unfold gDictK at e
  split at e
  · rename_i ys
    cases q1 : kvsOf ys with
    | none => rw [q1] at e; cases e
    | some kvs =>
      rw [q1] at e
      dsimp only [Option.bind] at e
      split at e
      · rename_i hk
        cases e
        obtain ⟨v, rfl, w⟩ := r.one
        obtain ⟨a, vs, rfl, h1, r1⟩ := vw_lst (S := S) q w rfl
        obtain ⟨ps, ks, rfl, hp, hd, hkeys⟩ := kvs_paired r1 q1
        have hm : mergeK [] ks = ks := by
          have := mergeK_nd ks [] (by rw [hkeys]; exact hk.1)
          simpa using this
        refine thn (call_dictP hc pins s σ H [.ref a] us (QV X.K m H S (.dct false kvs)) I rv ⟨a, ps, ks, rfl, h1, L2.Paired.mapP hp (fun _ _ z => SqT.of z), fun p hn => ?_⟩) fun _ _ z => vp_of z
        rw [hm]
        exact qv_new q hn (.dct (q.nin hn) upd_same (VDk.ext (Ext.fresh hn) q.muts hd))
      · cases e
  · rename_i ys
    cases q1 : kvsOf ys with
    | none => rw [q1] at e; cases e
    | some kvs =>
      rw [q1] at e
      dsimp only [Option.bind] at e
      split at e
      · rename_i hk
        cases e
        obtain ⟨v, rfl, w⟩ := r.one
        cases w with
        | @ftup a vs _ o hdn h1 r1 =>
          obtain ⟨ps, ks, rfl, hp, hd, hkeys⟩ := kvs_paired r1 q1
          rw [Vals.ref1 rv]
          obtain ⟨ho, hz, its, rv', o', ho', hcl, n, hdat⟩ := (show ObjOk X.prog X.w H s.heap a (.frz o (.tup (ps.map V.ref))) from I.hok a _ h1)
          obtain rfl : o' = o := Option.some.inj (ho'.symm.trans ho)
          have ei := refs_at rv'
          subst ei
          obtain ⟨prs, pv, rel, hl, hl2, hpr⟩ := pairs2 I hp
          rw [List.length_map] at hz
          refine PySem.call_dict_pairs (knd := mixKind X.prog X.w) (kvs := prs) (PairArg.tuple a (ps.map Value.ref).toArray (fun j => ps.getD j 0) pv) (I.ok.hd hc) ⟨⟨o', n, ho, hcl, hdn, hdat⟩, by simp [hl2], fun j u y e => ?_⟩ ⟨by rw [hl, hl2], fun j u y e => ?_⟩ (by rw [hl2]; exact hz) fun h' tk hd' k => ?_
          · obtain ⟨b, k, e1, e2, e3, e4⟩ := hpr j u y e
            have eb : ps.getD j 0 = b := by simp [List.getD_eq_getElem?_getD, e1]
            exact ⟨by simp [e1, List.getD_eq_getElem?_getD], .inl (by show s.heap.IsTuple (ps.getD j 0) #[u, y]; rw [eb]; exact e3)⟩
          · obtain ⟨b, k, e1, e2, e3, e4⟩ := hpr j u y e
            exact ⟨k, e2, e4⟩
          · have hn : H s.heap.objs.size = none := I.hok.fresh (Nat.le_refl _)
            have hsys : (s.heap.objs.size == sysModules) = false := beq_eq_false_iff_ne.mpr (Nat.ne_of_gt I.big)
            have hpk : prs.map (·.1) = ks.map (·.1) := paired_keys (F := fun (p : Key × V) (q : Key × Value) => p.1 = q.1 ∧ RelV p.2 q.2) rel fun _ _ z => z.1
            have hm : merged [] prs = prs := by
              have := merged_nd prs [] (by rw [hpk, hkeys]; exact hk.1)
              simpa using this
            rw [hm] at hd'
            have hlen : ks.length ≤ sizeLine := by rw [vdk_len hd]; exact Nat.le_trans hk.2 (by decide)
            exact ⟨.ref s.heap.objs.size, upd H s.heap.objs.size (.dK ks), m, I.laid (t' := tk) (fun b o e => k b o (fun z => nomatch z) e) (Nat.le_refl _) (show ObjOk X.prog X.w _ _ _ (.dK ks) from ⟨hlen, hsys, prs, rel, hd'⟩), rfl, Ext.fresh hn, q.fresh hn, .dct (q.nin hn) upd_same (VDk.ext (Ext.fresh hn) q.muts hd)⟩
      · cases e
  · cases e⟩
theorem pairsT2 {pins : List (Addr × Obj)} {σ : L2.St} {H : Hp} {s : Shared} (I : Inv X pins σ H s) : ∀ {ps : List (Addr × Addr)} {ks : List (List Key × V)}, Paired (fun p (kv : List Key × V) => H p.1 = some (.tup [.ref p.2, kv.2]) ∧ H p.2 = some (.tup (kv.1.map kV))) ps ks →
    ∃ (prs : List (List Key × Addr × Value)) (pv : List (Value × Value)), Paired (fun (p : List Key × V) (q : List Key × Addr × Value) => p.1 = q.1 ∧ H q.2.1 = some (.tup (p.1.map kV)) ∧ RelV p.2 q.2.2) ks prs ∧ prs.length = ps.length ∧ pv.length = ps.length ∧ ∀ (j : Nat) (u y : Value), pv[j]? = some (u, y) → ∃ (b c : Addr) (k : List Key), ps[j]? = some (b, c) ∧ u = .ref c ∧ prs[j]? = some (k, c, y) ∧ IsTup s.heap b #[u, y]
  | _, _, .nil => ⟨[], [], .nil, rfl, rfl, fun j u y e => by simp at e⟩
  | _, _, .cons (a := p) (b := kv) h t => by
    obtain ⟨prs, pv, r, hl, hl2, hp⟩ := pairsT2 I t
    obtain ⟨its, rv, ht, _⟩ := I.tuple (SqT.of h.1)
    obtain ⟨u, y, ei, ru, ry⟩ := vals2 rv
    subst ei
    obtain rfl : u = Value.ref p.2 := ru
    refine ⟨(kv.1, p.2, y) :: prs, (.ref p.2, y) :: pv, .cons ⟨rfl, h.2, ry⟩ r, by rw [List.length_cons, List.length_cons, hl], by rw [List.length_cons, List.length_cons, hl2], fun j u' y' e => ?_⟩
    cases j with
    | zero =>
      have e' : (Value.ref p.2, y) = (u', y') := Option.some.inj e
      cases e'
      exact ⟨p.1, p.2, kv.1, rfl, rfl, rfl, ht⟩
    | succ j =>
      obtain ⟨b, c, k, e1, e2, e3⟩ := hp j u' y' (by simpa using e)
      exact ⟨b, c, k, by simpa using e1, e2, by simpa using e3.1, e3.2⟩
/-- dict(pairs), the keys tuples of numbers and texts, each once -/
def gDictT : GC := fun S ds => match ds with
  | [.lst xs] => (kvsOfT xs).bind fun kvs => if (keysT kvs).Nodup ∧ kvs.length ≤ 100000 then some (.dct true kvs) else none
  | _ => none
theorem cl_dictT (hc : X.calm = true) (hu : X.A.units + 64 < cLine) : CallL X (.type "dict") gDictT := ⟨fun pins s σ H m S xs ds d us I q r rv e => by
  unfold gDictT at e
  split at e
  · rename_i ys
    cases q1 : kvsOfT ys with
    | none => rw [q1] at e; cases e
    | some kvs =>
      rw [q1] at e
      dsimp only [Option.bind] at e
      split at e
      · rename_i hk
        cases e
        obtain ⟨v, rfl, w⟩ := r.one
        obtain ⟨a, vs, rfl, h1, r1⟩ := vw_lst (S := S) q w rfl
        obtain ⟨ps, ks, rfl, hp, hd, hkeys⟩ := kvs_pairedT r1 q1
        rw [Vals.ref1 rv]
        obtain ⟨its, rv', ⟨o, n, ho, hcl, hdn, hdat⟩, hz⟩ := I.list h1
        have hmm : (ps.map fun p => V.ref p.1) = (ps.map (·.1)).map V.ref := by rw [List.map_map]; rfl
        rw [hmm] at rv'
        have ei := refs_at rv'
        subst ei
        obtain ⟨prs, pv, rel, hl, hl2, hpr⟩ := pairsT2 I hp
        rw [List.length_map] at hz
        have relH := rel
        refine PySem.call_dict_pairsH (knd := tupleKind (mixKind X.prog X.w)) (ps := prs) (PairArg.list a ((ps.map (·.1)).map Value.ref).toArray (fun j => (ps.map (·.1)).getD j 0) pv) (I.ok.hd hc) (tupleKind_room_in1 (A := X.A.in1) (by show X.A.units + 1 + 1 < cLine; omega)) ⟨⟨o, n, ho, hcl, hdn, hdat⟩, by simp [hl2], fun j u y e => ?_⟩ ⟨by rw [hl, hl2], fun j u y e => ?_⟩ (fun h' hk' x hx => ?_) (by rw [hl2]; exact hz) fun h' tk hd' k => ?_
        · obtain ⟨b, c, k, e1, e2, e3, e4⟩ := hpr j u y e
          have eb : (ps.map (·.1)).getD j 0 = b := by simp [List.getD_eq_getElem?_getD, e1]
          exact ⟨by simp [e1, List.getD_eq_getElem?_getD], .inl (by show s.heap.IsTuple ((ps.map (·.1)).getD j 0) #[u, y]; rw [eb]; exact e4)⟩
        · obtain ⟨b, c, k, e1, e2, e3, e4⟩ := hpr j u y e
          exact ⟨k, c, e3, e2⟩
        · have hx' : H x.2.1 = some (.tup (x.1.map kV)) := by
            obtain ⟨y, z1, z2, _⟩ := paired_right rel x hx
            rw [← z1]; exact z2
          obtain ⟨ob, it, n', g1, g2⟩ := key_of I.hok hx'
          exact ⟨ob, it, n', hk' _ _ (Nat.ne_of_lt (Heap.lt_size g1)) (fun z => nomatch z) g1, g2⟩
        · have hn : H s.heap.objs.size = none := I.hok.fresh (Nat.le_refl _)
          have hsys : (s.heap.objs.size == sysModules) = false := beq_eq_false_iff_ne.mpr (Nat.ne_of_gt I.big)
          have hpk : prs.map (·.1) = ks.map (·.1) := paired_keys rel fun _ _ z => z.1
          have hm : storedAllH [] prs = prs := by
            have := storedAll_nd prs [] (by rw [hpk, hkeys]; exact hk.1)
            simpa using this
          rw [hm] at hd'
          have hlen : ks.length ≤ sizeLine := by rw [vdt_len hd]; exact Nat.le_trans hk.2 (by decide)
          obtain ⟨ob, es, ep, g1, g2, g3, g4, g5, g6⟩ := hd'
          have rel2 : Paired (fun (p : List Key × V) (q : List Key × Addr × Value) => p.1 = q.1 ∧ upd H s.heap.objs.size (.dT ks) q.2.1 = some (.tup (p.1.map kV)) ∧ RelV p.2 q.2.2) ks prs := L2.Paired.mapP rel fun p q z => ⟨z.1, by rw [upd_ne (fun e => by rw [e, hn] at z; cases z.2.1)]; exact z.2.1, z.2.2⟩
          exact ⟨.ref s.heap.objs.size, upd H s.heap.objs.size (.dT ks), m, I.laid (t' := tk) (fun b o e => k b o (fun z => nomatch z) e) (Nat.le_refl _) (show ObjOk X.prog X.w _ _ _ (.dT ks) from ⟨hlen, hsys, prs, rel2, ob, es, ep, g1, g2, g3, g4, g6⟩), rfl, Ext.fresh hn, q.fresh hn, .dctT (q.nin hn) upd_same (VDt.ext (Ext.fresh hn) q.muts hd)⟩
      · cases e
  · cases e⟩
end
end MP

/-! ### list(zip(xs, ys)) of two lists -/
namespace MP
open PySem PySem.W PySem.Spec PyProof.Rows L2
/-- the made tuples: rising places, each a pair -/
structure Prs (xs ys : Array Value) (lo : Addr) (h : Heap) (as : List Addr) : Prop where
  rise : as.Pairwise (· < ·)
  above : ∀ a ∈ as, lo < a
  prs : ∀ (j : Nat) (a : Addr), as[j]? = some a → ∃ x y, xs[j]? = some x ∧ ys[j]? = some y ∧ IsPair h a x y
theorem Prs.nil {xs ys : Array Value} {lo : Addr} {h : Heap} : Prs xs ys lo h [] := ⟨List.Pairwise.nil, (fun _ z => nomatch z), (fun j a z => by simp at z)⟩
theorem Prs.snoc {xs ys : Array Value} {lo : Addr} {h h' : Heap} {as : List Addr} {x y : Value} (g : Prs xs ys lo h as) (hlo : lo < h.objs.size) (ex : xs[as.length]? = some x) (ey : ys[as.length]? = some y) (new : IsPair h' h.objs.size x y) (k : ∀ a, lo < a → ∀ o, h.get? a = some o → h'.get? a = some o) : Prs xs ys lo h' (as ++ [h.objs.size]) where
  rise := List.pairwise_append.mpr ⟨g.rise, List.pairwise_singleton _ _, fun a ha b hb => by
    obtain ⟨j, hj⟩ := List.getElem?_of_mem ha
    obtain ⟨_, _, _, _, e⟩ := g.prs j a hj
    rw [List.mem_singleton.mp hb]
    exact Heap.lt_size e⟩
  above := fun a ha => by
    rcases List.mem_append.mp ha with z | z
    · exact g.above a z
    · rw [List.mem_singleton.mp z]; exact hlo
  prs := fun j a e => by
    by_cases q : j < as.length
    · rw [List.getElem?_append_left q] at e
      obtain ⟨u, v, e1, e2, e3⟩ := g.prs j a e
      exact ⟨u, v, e1, e2, k a (g.above a (List.mem_of_getElem? e)) _ e3⟩
    · by_cases q2 : j = as.length
      · subst q2
        have e' : h.objs.size = a := by simpa using e
        subst e'
        exact ⟨x, y, ex, ey, new⟩
      · rw [List.getElem?_eq_none (by rw [List.length_append, List.length_singleton]; omega)] at e
        cases e
/-- a zip of two lists that stands at its i-th turn, while a list grows at S -/
structure Zt (z TI TO i1 i2 l1 l2 S : Addr) (xs ys : Array Value) (h : Heap) (i : Nat) : Prop where
  ti : IsPair h TI (.ref i1) (.ref i2)
  ia : h.IsListIter i1 l1 i
  ib : h.IsListIter i2 l2 i
  la : h.IsList l1 xs
  lb : h.IsList l2 ys
  out : (IsZip h z TI TO .none ∧ ∃ p q, IsPair h TO p q) ∨ ∃ T f oT, IsZipHeld h z TI TO T f ∧ h.get? T = some oT ∧ T ≠ z ∧ T ≠ i1 ∧ T ≠ i2 ∧ T ≠ S
section
variable {z TI TO i1 i2 l1 l2 S : Addr} {xs ys : Array Value}
theorem Zt.frame {h h' : Heap} {i : Nat} (t : Zt z TI TO i1 i2 l1 l2 S xs ys h i) (hS : S ∉ [z, TI, TO, i1, i2, l1, l2]) (k : ∀ b o, b ≠ S → h.get? b = some o → h'.get? b = some o) : Zt z TI TO i1 i2 l1 l2 S xs ys h' i := by
  simp only [List.mem_cons, List.not_mem_nil, or_false, not_or] at hS
  obtain ⟨s1, s2, s3, s4, s5, s6, s7⟩ := hS
  refine ⟨k _ _ (Ne.symm s2) t.ti, t.ia.at fun o e => k _ o (Ne.symm s4) e, t.ib.at fun o e => k _ o (Ne.symm s5) e, t.la.at fun o e => k _ o (Ne.symm s6) e, t.lb.at fun o e => k _ o (Ne.symm s7) e, ?_⟩
  rcases t.out with ⟨g, p, q, e⟩ | ⟨T, f, oT, g, e, n1, n2, n3, n4⟩
  · exact .inl ⟨k _ _ (Ne.symm s1) g, p, q, k _ _ (Ne.symm s3) e⟩
  · exact .inr ⟨T, f, oT, k _ _ (Ne.symm s1) g, k _ _ n4 e, n1, n2, n3, n4⟩
variable {prog : Program} {w : World} {A : Around} {E : Value → Shared → Prop} {s : Shared}
theorem Zt.turn {Q : Option Value → Shared → Prop} {i : Nat} {x y : Value} (D : ZipApart z TI TO i1 i2 l1 l2) (t : Zt z TI TO i1 i2 l1 l2 S xs ys s.heap i) (hS : S < s.heap.objs.size) (ex : xs[i]? = some x) (ey : ys[i]? = some y)
    (hQ : ∀ h', Zt z TI TO i1 i2 l1 l2 S xs ys h' (i + 1) → IsPair h' s.heap.objs.size x y → (∀ c o, c ∉ [z, TO, i1, i2] → s.heap.get? c = some o → h'.get? c = some o) → Q (some (.ref s.heap.objs.size)) { s with heap := h' }) :
    wpAny (model prog w) A (pyNext (.ref z)) Q E s := by
  have apart : ∀ {c o}, s.heap.get? c = some o → s.heap.objs.size ≠ c := fun e => Nat.ne_of_gt (Heap.lt_size e)
  obtain ⟨o1, q1, _⟩ := id t.ia
  obtain ⟨o2, q2, _⟩ := id t.ib
  rcases t.out with ⟨g, p, q, e⟩ | ⟨T, f, oT, g, e, n1, n2, n3, n4⟩
  · refine wpAny_pyNext_zip_item D g t.ti e t.ia t.ib t.la t.lb ex ey fun h' b1 b2 b3 b4 b5 b6 keep => ?_
    refine hQ h' ⟨keep _ _ D.TIz D.TITO D.TIi1 D.TIi2 t.ti, b3, b4, t.la.at fun o e => keep _ o D.l1z D.l1TO D.l1i1 D.l1i2 e, t.lb.at fun o e => keep _ o D.l2z D.l2TO D.l2i1 D.l2i2 e, .inr ⟨_, false, _, b1, b5, apart g, apart q1, apart q2, Nat.ne_of_gt hS⟩⟩ b5 fun c o nc e => ?_
    simp only [List.mem_cons, List.not_mem_nil, or_false, not_or] at nc
    exact keep c o nc.1 nc.2.1 nc.2.2.1 nc.2.2.2 e
  · refine wpAny_pyNext_zip_item_held D g e t.ti t.ia t.ib t.la t.lb ex ey fun h' b1 b3 b4 b5 b6 keep => ?_
    refine hQ h' ⟨keep _ _ D.TIz D.TIi1 D.TIi2 t.ti, b3, b4, t.la.at fun o e => keep _ o D.l1z D.l1i1 D.l1i2 e, t.lb.at fun o e => keep _ o D.l2z D.l2i1 D.l2i2 e, .inr ⟨T, true, oT, b1, keep _ _ n1 n2 n3 e, n1, n2, n3, n4⟩⟩ b5 fun c o nc e => ?_
    simp only [List.mem_cons, List.not_mem_nil, or_false, not_or] at nc
    exact keep c o nc.1 nc.2.2.1 nc.2.2.2 e
theorem Zt.over {Q : Option Value → Shared → Prop} {i : Nat} (hh : A.handled = none) (D : ZipApart z TI TO i1 i2 l1 l2) (t : Zt z TI TO i1 i2 l1 l2 S xs ys s.heap i) (no : xs[i]? = none ∨ ys[i]? = none)
    (hQ : ∀ h', (∀ c o, c ∉ [z, TO, i1, i2] → s.heap.get? c = some o → h'.get? c = some o) → Q none { s with heap := h' }) : wpAny (model prog w) A (pyNext (.ref z)) Q E s := by
  rcases t.out with ⟨g, p, q, e⟩ | ⟨T, f, oT, g, e, n1, n2, n3, n4⟩
  · refine wpAny_pyNext_zip_end hh D g t.ti e t.ia t.ib t.la t.lb no fun h' keep => hQ h' fun c o nc e => ?_
    simp only [List.mem_cons, List.not_mem_nil, or_false, not_or] at nc
    exact keep c o nc.1 nc.2.1 nc.2.2.1 nc.2.2.2 e
  · refine wpAny_pyNext_zip_end_held hh D g e t.ti t.ia t.ib t.la t.lb no fun h' keep => hQ h' fun c o nc e => ?_
    simp only [List.mem_cons, List.not_mem_nil, or_false, not_or] at nc
    exact keep c o nc.1 nc.2.2.1 nc.2.2.2 e
variable {R : Result → Shared → Prop}
/-- the growing -/
theorem zl_loop (hh : A.handled = none) (D : ZipApart z TI TO i1 i2 l1 l2) (hS : S ∉ [z, TI, TO, i1, i2, l1, l2]) {lo : Addr} (wlo : ∀ b ∈ [z, TO, i1, i2], b ≤ lo) (hSlo : S ≤ lo) (hn : min xs.size ys.size ≤ sizeLine) (res : Value) {h₁ : Heap}
    (hR : ∀ h' tk acc c as, (∀ b o, b ∉ [S, z, TO, i1, i2] → h₁.get? b = some o → h'.get? b = some o) → h'.get? S = some { cls := .type "list", dict := none, data := .seq acc c, slots := #[] } → as.length = min xs.size ys.size → Prs xs ys lo h' as →
      acc.toList = as.map Value.ref → R (.ok (.ret res)) { s with heap := h', toks := tk }) :
    ∀ (k i : Nat) (h : Heap) (tk c : Nat) (acc : Array Value) (as : List Addr), min xs.size ys.size - i = k → i ≤ min xs.size ys.size → Zt z TI TO i1 i2 l1 l2 S xs ys h i → (∀ b o, b ∉ [S, z, TO, i1, i2] → h₁.get? b = some o → h.get? b = some o) →
      h.get? S = some { cls := .type "list", dict := none, data := .seq acc c, slots := #[] } → acc.toList = as.map Value.ref → as.length = i → Prs xs ys lo h as → lo < h.objs.size →
      codeAny (model prog w) A (.builtin "list.extend.loop" ⟨[.ref S, .ref z, res], []⟩) R { s with heap := h, toks := tk } := by
  have nS : S ∉ [z, TO, i1, i2] := fun q => hS (by simp only [List.mem_cons, List.not_mem_nil, or_false] at q ⊢; rcases q with q | q | q | q <;> simp [q])
  have sub : ∀ {b}, b ∉ [S, z, TO, i1, i2] → b ≠ S ∧ b ∉ [z, TO, i1, i2] := fun q => by
    rw [List.mem_cons, not_or] at q
    exact q
  intro k
  induction k with
  | zero =>
    intro i h tk c acc as hk hi t hkeep hL hacc hal hG hlo
    refine codeAny_builtin PySem.F.entry_extend_loop ?_
    rw [Around.under_plainId PySem.F.plain_extend_loop _]
    show wpAny _ A.in1 (pyNext (.ref z) >>= _) _ _ _
    have no : xs[i]? = none ∨ ys[i]? = none := by
      rcases Nat.le_total xs.size ys.size with q | q
      · exact .inl (Array.getElem?_eq_none (by omega))
      · exact .inr (Array.getElem?_eq_none (by omega))
    refine wpAny_bind (Zt.over (s := { s with heap := h, toks := tk }) (A := A.in1) hh D t no fun h' he => ?_)
    refine wpAny_pure (hR h' tk acc c as (fun b o nb e => he b o (sub nb).2 (hkeep b o nb e)) (he S _ nS hL) (by omega) ⟨hG.rise, hG.above, fun j a hj => ?_⟩ hacc)
    obtain ⟨u, v, e1, e2, e3⟩ := hG.prs j a hj
    have ha := hG.above a (List.mem_of_getElem? hj)
    exact ⟨u, v, e1, e2, he a _ (fun q => absurd (wlo a q) (Nat.not_le.mpr ha)) e3⟩
  | succ k ih =>
    intro i h tk c acc as hk hi t hkeep hL hacc hal hG hlo
    have hlt : i < min xs.size ys.size := by omega
    have ex := Array.getElem?_eq_getElem (xs := xs) (i := i) (by omega)
    have ey := Array.getElem?_eq_getElem (xs := ys) (i := i) (by omega)
    have hsz : acc.size = i := by rw [← Array.length_toList, hacc, List.length_map, hal]
    refine codeAny_builtin PySem.F.entry_extend_loop ?_
    rw [Around.under_plainId PySem.F.plain_extend_loop _]
    show wpAny _ A.in1 (pyNext (.ref z) >>= _) _ _ _
    refine wpAny_bind (Zt.turn (s := { s with heap := h, toks := tk }) D t (Heap.lt_size hL) ex ey fun h' t' new keep => ?_)
    dsimp only at new keep ⊢
    have hL' := keep S _ nS hL
    have hSl : S < h.objs.size := Heap.lt_size hL
    have up : ∀ b o, b ≠ S → h'.get? b = some o → (h'.update S (Obj.mapSeq (·.push (Value.ref h.objs.size)))).get? b = some o := fun b o hb e => (Heap.get?_update_other _ _ (Ne.symm hb)).trans e
    have new2 := up _ _ (Nat.ne_of_gt hSl) new
    show wpAny _ A.in1 (updateSeq S (·.push (Value.ref h.objs.size)) >>= _) _ _ _
    refine wpAny_bind ?_
    refine wpAny_updateSeq hL' rfl (wpAny_pure ⟨plainId_quiet PySem.F.plain_extend_loop _, ih (i + 1) _ tk _ (acc.push (Value.ref h.objs.size)) (as ++ [h.objs.size]) (by omega) (by omega) (t'.frame hS up)
      (fun b o nb e => up b o (sub nb).1 (keep b o (sub nb).2 (hkeep b o nb e))) (Heap.get?_update_self _ hL' rfl) (by rw [Array.toList_push, hacc, List.map_append]; rfl) (by rw [List.length_append, hal]; rfl)
      (hG.snoc hlo (by rw [hal]; exact ex) (by rw [hal]; exact ey) new2 fun a ha o e => up a o (Nat.ne_of_gt (Nat.lt_of_le_of_lt hSlo ha)) (keep a o (fun q => absurd (wlo a q) (Nat.not_le.mpr ha)) e)) (Nat.lt_trans hlo (Heap.lt_size new2))⟩) (by rw [hsz]; omega) (by show (acc.push (Value.ref h.objs.size)).size ≤ sizeLine + 1; rw [Array.size_push, hsz]; omega)
/-- list.extend by a zip -/
theorem zip_no_len : typeLookup (.type "zip") "__len__" = pure none := am_miss_of_fast (by decide +kernel)
theorem zip_no_hint : typeLookup (.type "zip") "__length_hint__" = pure none := am_miss_of_fast (by decide +kernel)
theorem zl_extend (hh : A.handled = none) (D : ZipApart z TI TO i1 i2 l1 l2) (hS : S ∉ [z, TI, TO, i1, i2, l1, l2]) {lo : Addr} (wlo : ∀ b ∈ [z, TO, i1, i2], b ≤ lo) (hSlo : S ≤ lo) (hlo : lo < s.heap.objs.size) (hn : min xs.size ys.size ≤ sizeLine) (res : Value) (c₀ : Nat)
    (t : Zt z TI TO i1 i2 l1 l2 S xs ys s.heap 0) (hL : s.heap.get? S = some { cls := .type "list", data := .seq #[] c₀ })
    (hR : ∀ h' tk acc c as, (∀ b o, b ∉ [S, z, TO, i1, i2] → s.heap.get? b = some o → h'.get? b = some o) → h'.get? S = some { cls := .type "list", dict := none, data := .seq acc c, slots := #[] } → as.length = min xs.size ys.size → Prs xs ys lo h' as →
      acc.toList = as.map Value.ref → R (.ok (.ret res)) { s with heap := h', toks := tk }) (hz : IsZip s.heap z TI TO .none) :
    wpAny (model prog w) A.in1 (Builtin.List.listExtendWith (.ref S) (.ref z) res)
      (fun fin s' => match fin with | .done f => R (.ok f) s' | .again c' => c'.quiet = true ∧ codeAny (model prog w) A c' R s') (fun e s' => R (.error e) s') s := by
  have nz : S ≠ z := fun q => hS (by simp [q])
  have hT : s.TypeIs (.ref z) "zip" := ⟨_, hz, rfl⟩
  unfold Builtin.List.listExtendWith
  refine wpAny_bind (wpAny_typeOf (T := "zip") hT ?_)
  have e1 : Builtin.List.listSameRef (.ref S) (.ref z) = false := by simp [Builtin.List.listSameRef, nz]
  have e2 : (Value.type "zip" == Value.type "list") = false := by decide
  have e3 : (Value.type "zip" == Value.type "tuple") = false := by decide
  simp only [e1, e2, e3, Bool.or_false, Bool.false_eq_true, if_false]
  refine wpAny_bind (wpAny_pyIter_zip hz ?_)
  refine wpAny_bind (wpAny_holding ?_)
  unfold Builtin.List.listLengthHint
  refine wpAny_bind (wpAny_specialOf hT zip_no_len ?_)
  show wpAny _ A.in1 (specialOf (Value.ref z) (Str.ofString "__length_hint__") >>= _) _ _ _
  refine wpAny_bind (wpAny_specialOf hT zip_no_hint ?_)
  refine wpAny_pure ?_
  show wpAny _ A.in1 (rule "list.extend.makes-room" >>= fun _ => Builtin.List.listTouch (.ref S) >>= fun _ => again (.builtin "list.extend.loop" ⟨[.ref S, .ref z, res], []⟩)) _ _ _
  refine wpAny_bind (wpAny_rule ?_)
  refine wpAny_bind ?_
  show wpAny _ A.in1 (updateSeq S (·.push .none) >>= fun _ => updateSeq S (·.pop)) _ _ _
  refine wpAny_bind (wpAny_updateSeq hL rfl ?_)
  have hL₂ := Heap.get?_update_self (Obj.mapSeq (·.push Value.none)) hL rfl
  refine wpAny_updateSeq (hz := by seq_fits) hL₂ rfl ?_
  have hL₃ := Heap.get?_update_self (Obj.mapSeq (·.pop)) hL₂ rfl
  have oth : ∀ b o, b ≠ S → s.heap.get? b = some o → ((s.heap.update S (Obj.mapSeq (·.push Value.none))).update S (Obj.mapSeq (·.pop))).get? b = some o :=
    fun b o nb e => (Heap.get?_update_other _ _ (Ne.symm nb)).trans ((Heap.get?_update_other _ _ (Ne.symm nb)).trans e)
  exact wpAny_pure ⟨plainId_quiet PySem.F.plain_extend_loop _, zl_loop (h₁ := s.heap) hh D hS wlo hSlo hn res hR _ 0 _ s.toks _ #[] [] rfl (Nat.zero_le _) (t.frame hS oth) (fun b o nb e => oth b o (fun q => nb (by simp [q])) e) hL₃ rfl rfl .nil
    (by rw [Heap.size_update, Heap.size_update]; exact hlo)⟩
end
end MP

namespace MP
open PySem PySem.W PySem.Spec PyProof.Rows L2
/-- more is tracked than before: all of the old, none of the old heap's untracked -/
theorem inv_more {X : Cx} {pins : List (Addr × Obj)} {σ : L2.St} {H H' : Hp} {s : Shared} {h' : Heap} {t' : Nat} (I : Inv X pins σ H s) (k : ∀ b u, s.heap.get? b = some u → h'.get? b = some u)
    (p1 : ∀ b o, H b = some o → H' b = some o) (p2 : ∀ b, b < s.heap.objs.size → H b = none → H' b = none) (hok : HOk X.prog X.w H' h') : Inv X pins σ H' { s with heap := h', toks := t' } :=
  I.un { keep := fun b u q _ _ _ => k b u q, slot := fun b u q _ _ _ => ⟨u.slots, k b u q⟩, free := fun b u q n _ => p2 b (Heap.lt_size q) n, there := fun b u q _ => ⟨u, k b u q⟩, tups := fun b xs q => p1 b _ q, frzs := fun b o u q => p1 b _ q, tbls := fun b ps q => ⟨#[], by rw [p1 b _ q]; simp⟩ } hok
section
variable {X : Cx} {m : List Addr} {H : Hp} {S : Sto} {h' : Heap} {sz lo : Addr} {us ws : Array Value} {as : List Addr} {vs zs : List V} {xs ys : List D}
/-- what is known when the first j of the made pairs are tracked -/
structure LayP (X : Cx) (m : List Addr) (H : Hp) (S : Sto) (h' : Heap) (sz : Addr) (as : List Addr) (xs ys : List D) (j : Nat) (H' : Hp) : Prop where
  ok : HOk X.prog X.w H' h'
  old : ∀ b o, H b = some o → H' b = some o
  low : ∀ b, b < sz → H b = none → H' b = none
  high : ∀ b, sz ≤ b → b ∉ as.take j → H' b = none
  ext : Ext m H m H'
  sr : SR X.K m H' S
  vr : VRs X.K m H' ((as.take j).map V.ref) ((zipD xs ys).take j)
theorem lay_prs (G : Prs us ws lo h' as) (hlo : sz ≤ lo) (hl : as.length = (zipD xs ys).length) (x : SR X.K m H S) (ok : HOk X.prog X.w H h') (fr : ∀ b, sz ≤ b → H b = none) (rv : Vals vs us.toList) (rw_ : Vals zs ws.toList) (r1 : VRs X.K m H vs xs) (r2 : VRs X.K m H zs ys) :
    ∀ j, j ≤ as.length → ∃ H', LayP X m H S h' sz as xs ys j H'
  | 0, _ => ⟨H, ok, fun _ _ q => q, fun _ _ q => q, fun b q _ => fr b q, Ext.refl, x, by simp; exact .nil⟩
  | j + 1, hj => by
    obtain ⟨H1, P⟩ := lay_prs G hlo hl x ok fr rv rw_ r1 r2 j (by omega)
    have hj' : j < as.length := hj
    have ea : as[j]? = some as[j] := List.getElem?_eq_getElem hj'
    obtain ⟨p, q, ep, eq, hp⟩ := G.prs j _ ea
    have hlo2 := G.above _ (List.getElem_mem hj')
    have hfree : H1 as[j] = none := P.high _ (Nat.le_trans hlo (Nat.le_of_lt hlo2)) fun z => by
      obtain ⟨i, hi⟩ := List.getElem?_of_mem z
      have hij : i < j := by
        have := (List.getElem?_eq_some_iff.mp hi).1
        rw [List.length_take] at this
        omega
      rw [List.getElem?_take, if_pos hij] at hi
      obtain ⟨hi1, hi2⟩ := List.getElem?_eq_some_iff.mp hi
      have := List.pairwise_iff_getElem.mp G.rise i j hi1 hj' hij
      rw [hi2] at this
      exact Nat.lt_irrefl _ this
    have ez : (zipD xs ys)[j]? = some (zipD xs ys)[j] := List.getElem?_eq_getElem (by omega)
    obtain ⟨d, e, ed, ee, ede⟩ := zipD_get ez
    obtain ⟨v, ev, wv⟩ := r1.getr ed
    obtain ⟨v2, ev2, wv2⟩ := r2.getr ee
    obtain ⟨u, eu, ru⟩ := rv.get ev
    obtain ⟨u2, eu2, ru2⟩ := rw_.get ev2
    have e1 : u = p := by
      rw [Array.getElem?_toList, ep] at eu
      exact (Option.some.inj eu).symm
    have e2 : u2 = q := by
      rw [Array.getElem?_toList, eq] at eu2
      exact (Option.some.inj eu2).symm
    subst e1 e2
    have new : ObjOk X.prog X.w (upd H1 as[j] (.tup [v, v2])) h' as[j] (.tup [v, v2]) := ⟨show (2 : Nat) ≤ sizeLine by decide, [u, u2], .cons ru (.cons ru2 .nil), _, hp, rfl, _, rfl⟩
    have en : VRs X.K m (upd H1 as[j] (.tup [v, v2])) [V.ref as[j]] [D.tup [d, e]] := .cons (vr_newTup P.sr hfree (.cons (wv.ext P.ext x.muts) (.cons (wv2.ext P.ext x.muts) .nil))) .nil
    refine ⟨upd H1 as[j] (.tup [v, v2]), P.ok.laidN (fun _ _ q => q) hfree new, fun b o q => ?_, fun b q n => ?_, fun b q n => ?_, P.ext.trans (Ext.fresh hfree), P.sr.fresh hfree, ?_⟩
    · rw [upd_ne (ne_of_none (P.old b o q) hfree)]
      exact P.old b o q
    · rw [upd_ne (Nat.ne_of_lt (Nat.lt_of_lt_of_le q (Nat.le_trans hlo (Nat.le_of_lt hlo2))))]
      exact P.low b q n
    · rw [List.take_succ, ea, List.mem_append, not_or] at n
      rw [upd_ne (fun z => n.2 (by rw [z]; simp))]
      exact P.high b q n.1
    · rw [List.take_succ, List.take_succ, ea, ez, List.map_append, ede]
      exact (VRs.fresh P.sr hfree P.vr).append en
end
section
variable {prog : Program} {w : World} {A : Around} {E : Value → Shared → Prop} {s : Shared} {z TI TO i1 i2 l1 l2 : Addr} {xs ys : Array Value}
end
/-- the list of the pairs of two lists -/
def gListZip : GC := fun _ ds => match ds with
  | [.lst xs, .lst ys] => if (zipD xs ys).length ≤ 100000 then some (.lst (zipD xs ys)) else none
  | _ => none
end MP

/-! ### min of a list of texts; range(i, j, 2) -/
namespace MP
open PySem PySem.W PySem.Spec PyProof.Rows L2
def minS (x : Str) (xs : List Str) : Str := xs.foldl (fun a y => if decide (y.cps.toList < a.cps.toList) then y else a) x
theorem depth_strs : ∀ xs : List Str, PyData.depthAll (xs.map PyData.str) = 0
  | [] => rfl
  | x :: xs => by
    rw [List.map_cons]
    simp only [PyData.depthAll, PyData.depth, depth_strs xs]
    rfl
def gMinS : GC := fun S ds => match ds with
  | [d] => match vw S d with
    | .lst l => match strsD l with
      | some (x :: xs) => some (.str (minS x xs))
      | _ => none
    | _ => none
  | _ => none
/-- range(i, j, c), c from 1 on -/
def lRange3 (t : LA) : LI := fun ρ S => (t ρ S).bind fun ds S1 => match ds with
  | [.int i, .int j, .int c] => if 0 ≤ i ∧ i < 2 ^ 20 ∧ -(2 ^ 20) ≤ j ∧ j < 2 ^ 20 ∧ c = 2 then .ok ⟨(List.range ((j - i + 1) / 2).toNat).map fun (k : Nat) => .int (i + (k : Int) * 2), fun _ => True⟩ S1 else .bad
  | _ => .bad
end MP

/-! ### x not in [None, an object, an object], by an own __eq__ -/
namespace MP
open PySem PySem.SeqAt PySem.MeetsSeq PySem.MeetsSeq2 PySem.MeetsSeq3 PySem.SeqRoads2
open PySem.AutoSeq1 (wpAny_loadPart')
section
variable {prog : Program} {w : World} {A : Around} {R : Result → Shared → Prop}
end
end MP

namespace MP
open PySem PySem.Spec PyProof.Rows L2
section
variable {X : Cx} {C : Addr} {ts : List Tg} {gp : G2} {k : Nat} {f : Addr} {fd : FuncData} {ps : List Str} {A' : Around}
/-- what is had behind such a comparison -/
def Beh (X : Cx) (pins : List (Addr × Obj)) (σ : L2.St) (m : List Addr) (H : Hp) (S : Sto) (s' : Shared) : Prop := ∃ H' m', Inv X pins σ H' s' ∧ Ext m H m' H' ∧ SR X.K m' H' S
/-- x not in [None, d, e]: some False where e is as x is -/
def gNotIn3 (C : Addr) (ts : List Tg) (gp : G2) : G2 := fun S x y => match y with
  | .lst [.non, d, e] => match gp S x .non, gOwnEq C ts gp S d x, gOwnEq C ts gp S e x, vw S x with
    | some (.bl false), some (.bl _), some (.bl true), .obj C' _ => if C' = C then some (.bl false) else none
    | _, _, _, _ => none
  | _ => none
end
end MP

/-! ### a def with defaults -/
namespace MP
open PySem PySem.Spec PyProof.Rows L2
section
variable {P : Program} {w : World} {K : PySem.W.Frag} {mg : Str → Option Value} {base : Heap}
theorem FunD.okG {x qual : Str} {params : Arguments} {body : List Stmt} {scope : Scope} {dvs : List V} {kws : List (Str × V)} {f : Addr} {fd : FuncData} {N ps : List Str} {k : Nat} {sp : Sp} (F : FunD K x qual params body scope dvs kws f fd) (S : FnScope N ps scope) (len : ∀ vs H Q E, sp vs H Q E → vs.length = ps.length)
    (hbody : ∀ (cdv : Value) (A : Around) (outer : List Env) (s : Shared) (H : Hp) (vs : List V) (Q : VK) (E : XK), MP.Room k (A.deeper (envOfC qual scope s.heap.objs.size f cdv)) → sp vs H Q E →
      ∃ t, PSs (cxOf (L2.CX P w) P w K mg base N qual scope f cdv A outer s H E) body t ∧ t { nx := fun _ H' => Q .non H', rt := Q } (L2.start N vs) H) : MP.FnOk P w K mg base (L2.CX P w) (k + 1) f fd ps sp := by
  obtain ⟨oc, od, dV, kV, doc, pm, an, cdv, ct, osl, rfl, lk, hcd, _, _⟩ := F.ex
  exact fnG_of lk hcd S len fun A outer s H vs Q E hr hsp => hbody cdv A outer s H vs Q E hr hsp
theorem FunD.okL {x qual : Str} {params : Arguments} {body : List Stmt} {scope : Scope} {dvs : List V} {kws : List (Str × V)} {f : Addr} {fd : FuncData} {N ps : List Str} {k : Nat} {lb : LS} (Fn : FunD K x qual params body scope dvs kws f fd) (S : FnScope N ps scope)
    (hb : ∀ (cdv : Value) (A : Around) (outer : List Env) (s : Shared) (H : Hp) (E : XK), Room k (A.deeper (envOfC qual scope s.heap.objs.size f cdv)) → PSsL (cxL P w K mg base N qual scope f cdv A outer s H E) body lb) :
    FnL P w K mg base (k + 1) f fd ps (bodyF N.length lb) := by
  refine FunD.okG Fn S (fun vs H Q E h => h.1) fun cdv A outer s H vs Q E hr h => ⟨_, hb cdv A outer s H E hr, ?_⟩
  obtain ⟨hl, m, S0, ds, x0, r, nb, q1, q2⟩ := h
  refine ⟨m, ds.map some ++ List.replicate (N.length - ds.length) none, S0, x0, ?_, ?_, ?_⟩
  · exact er_start r
  · simp [L2.start, r.length]
  · have hB : ∀ a, bodyF N.length lb ds S0 = a → fin (lb (ds.map some ++ List.replicate (N.length - ds.length) none) S0) = a := fun a h => h
    generalize hA : lb (ds.map some ++ List.replicate (N.length - ds.length) none) S0 = A0 at hB
    have hb0 : bodyF N.length lb ds S0 = fin A0 := by unfold bodyF; rw [hA]
    rw [hb0] at nb q1 q2
    refine ⟨?_, fun ρ' S' e σ' H' ⟨m', e', x', er', _⟩ => ?_, fun d S' e v H' z => ?_, fun ρ' S' e => ?_, fun ρ' S' e => ?_, fun C fs ρ' S' e u s' z => ?_⟩
    · cases A0 with
      | bad => exact absurd rfl nb
      | exc C fs S' => exact absurd rfl nb
      | ok fl S' => exact ⟨fl, S', rfl⟩
    · subst e
      exact q1 .non S' rfl .non H' ⟨m', e', x', .non⟩
    · subst e
      exact q1 d S' rfl v H' z
    · subst e
      exact absurd rfl nb
    · subst e
      exact absurd rfl nb
    · subst e
      refine takes_of (E := E) rfl rfl rfl rfl u s' (XE.imp z fun cls d σ' H' w => ?_)
      obtain ⟨w1, dd, vs', m', w2, w3, w4, w5, w6⟩ := w
      exact q2 C fs S' rfl cls d H' ⟨w1, dd, vs', m', w2, w3, w4, w5, w6.1⟩
end
end MP

/-! sum of numbers, list.extend, dict(..) put into the store, is a truth, < of any data, in a tuple of texts -/
namespace MP
open PySem PySem.Spec PyProof.Rows L2
section
variable {X : Cx}
def intsOf : List D → Option (List Int)
  | [] => some []
  | .int b :: r => (intsOf r).map fun bs => b :: bs
  | _ => none
theorem intsOf_map : ∀ xs : List Int, intsOf (xs.map D.int) = some xs
  | [] => rfl
  | x :: r => by
    show (intsOf (r.map D.int)).map _ = _
    rw [intsOf_map r]
    rfl
theorem vrs_ints {K : PySem.W.Frag} {m : List Addr} {H : Hp} : ∀ {vs : List V} {ds : List D} {bs : List Int}, VRs K m H vs ds → intsOf ds = some bs → vs = bs.map V.int
  | _, _, bs, .nil, e => by simp only [intsOf] at e; cases e; rfl
  | _, _, bs, @VRs.cons _ _ _ v d vs ds h r, e => by
    cases h with
    | int b =>
      simp only [intsOf] at e
      cases q : intsOf ds with
      | none => rw [q] at e; cases e
      | some cs => rw [q] at e; cases e; rw [vrs_ints r q]; rfl
    | _ => simp only [intsOf] at e; cases e
def gSum : GC := fun S ds => match ds with
  | [d] => match vw S d with
    | .lst xs => (intsOf xs).map fun bs => .int bs.sum
    | _ => none
  | _ => none
theorem cl_sum (hc : X.calm = true) : CallL X (.builtin "sum") gSum := .of (cr_sum hc) fun H m S xs ds d q r e => by
  unfold gSum at e
  split at e
  · obtain ⟨v, rfl, rv⟩ := r.one
    split at e
    · rename_i ys e1
      obtain ⟨a, vs, rfl, h1, r1⟩ := vw_lst q rv e1
      cases q2 : intsOf ys with
      | none => rw [q2] at e; cases e
      | some bs =>
        rw [q2] at e
        cases e
        exact ⟨a, bs, rfl, by rw [← vrs_ints r1 q2]; exact h1, qv_same q (.int _)⟩
    · cases e
  · cases e
/-- x is True, x is False -/
def gIsB : G2 := fun _ x y => match x, y with
  | .bl a, .bl b => some (.bl (decide (a = b)))
  | _, _ => none
theorem opl_isB : OpL X (compareOp .Is) gIsB := .of op_isBl fun H m S x y dx dy d q rx ry e => by
  unfold gIsB at e
  split at e
  · cases e
    cases rx
    cases ry
    exact ⟨_, _, rfl, rfl, qv_same q (.bl _)⟩
  · cases e
def notNon : PyData → Bool
  | .none => false
  | _ => true
/-- x < y, of any data -/
def gLtD : G2 := fun S x y => match toPD (vw S x), toPD (vw S y) with
  | some p, some q => if PySem.W.alike p q = true ∧ notNon p = true ∧ p.depth ≤ 50 then some (.bl (PySem.W.dataLt p q)) else none
  | _, _ => none
theorem opl_ltD (hu : X.A.units + 64 < cLine) : OpL X (compareOp .Lt) gLtD := ⟨fun pins s σ H m S x y dx dy d v u I q rx ry ex ey e => by
  unfold gLtD at e
  split at e
  · rename_i p p' h1 h2
    split at e
    · rename_i hz
      cases e
      obtain ⟨as, r1⟩ := Dp.reads I _ _ _ (rx.dpv q h1) ex
      obtain ⟨bs, r2⟩ := Dp.reads I _ _ _ (ry.dpv q h2) ey
      exact PySem.W.lt_data r1 r2 hz.1 (fun z => by rw [z] at hz; exact absurd hz.2.1 (by decide)) (by have := hz.2.2; omega) ⟨.bl _, H, m, I, rfl, Ext.refl, q, .bl _⟩
    · cases e
  · cases e⟩
/-- in a tuple of texts -/
def gInT : G2 := fun S x y => match vw S x, y with
  | .str i, .tup l => (strsD l).map fun ys => .bl (decide (i ∈ ys))
  | _, _ => none
def gNotInT : G2 := fun S x y => match vw S x, y with
  | .str i, .tup l => (strsD l).map fun ys => .bl (!decide (i ∈ ys))
  | _, _ => none
theorem opl_inT : OpL X (compareOp .In) gInT := .of op_in_seq fun H m S x y dx dy d q rx ry e => by
  unfold gInT at e
  split at e
  · rename_i i l e1
    cases hs : strsD l with
    | none => rw [hs] at e; cases e
    | some ys =>
      rw [hs] at e
      cases e
      have hl := strsD_eq hs
      subst hl
      have ex := vw_str rx e1
      subst ex
      cases ry with
      | @tup a vs _ h1 r =>
        have hv := vrs_strs r
        subst hv
        refine ⟨a, _, rfl, .inr (SqT.of h1), rfl, flat_strs ys, ?_⟩
        show QV X.K m H S _ (.bl (inV (.str i) (ys.map V.str))) H
        rw [inV_strs]
        exact qv_same q (.bl _)
  · cases e
theorem opl_notInT : OpL X (compareOp .NotIn) gNotInT := .of op_notIn_seq fun H m S x y dx dy d q rx ry e => by
  unfold gNotInT at e
  split at e
  · rename_i i l e1
    cases hs : strsD l with
    | none => rw [hs] at e; cases e
    | some ys =>
      rw [hs] at e
      cases e
      have hl := strsD_eq hs
      subst hl
      have ex := vw_str rx e1
      subst ex
      cases ry with
      | @tup a vs _ h1 r =>
        have hv := vrs_strs r
        subst hv
        refine ⟨a, _, rfl, .inr (SqT.of h1), rfl, flat_strs ys, ?_⟩
        show QV X.K m H S _ (.bl (!inV (.str i) (ys.map V.str))) H
        rw [inV_strs]
        exact qv_same q (.bl _)
  · cases e
end
end MP

/-! list.extend by any list -/
namespace PySem.AutoSeq1
open PySem PySem.MeetsSeq
theorem extend_any (l : Addr) (items : Array Value) (n : Nat) (b : Addr) (items2 : Array Value) (n2 : Nat) (dd2 : Option Addr) (sl2 : Array (Option Value)) (hc0 : ¬(!items.isEmpty && Builtin.List.listTooLong (items.size + items2.size)) = true) (hc1 : items.size ≤ sizeLine) (hs2 : items.size + items2.size ≤ sizeLine + 1) :
    Meets (Builtin.«list.extend» ⟨[.ref l, .ref b], []⟩) (fun _ R s => s.heap.get? l = some { cls := .type "list", dict := none, data := .seq items n, slots := #[] } ∧ s.heap.get? b = some { cls := .type "list", dict := dd2, data := .seq items2 n2, slots := sl2 } ∧ R (.ok (.ret Value.none)) { s with heap := s.heap.update l (Obj.mapSeq fun x => x ++ items2), toks := s.toks }) :=
  .of_wp fun prog w A R s h => by
    obtain ⟨hp, g, d, tk, os⟩ := s; obtain ⟨hl, hb, h⟩ := h; have f1 := idx_int; have f2 := sub_tuple_tuple; have f3 := sub_list_list; have f4 := sub_tuple_list; have f5 := sub_list_tuple;
    have hz' : (items ++ items2).size ≤ sizeLine + 1 := by rw [Array.size_append]; exact hs2
    wp_walk using (wpAny_updateSeq hl rfl (hz := hc1) (_hz' := hz')), wpAny_loadPart' hl, wpAny_loadPart' hb; exact ⟨_, rfl, h⟩
end PySem.AutoSeq1
namespace MP
open PySem PySem.Spec PyProof.Rows L2
section
variable {X : Cx}
/-- xs.extend(a list) -/
def stExt : GM := fun S r ds => match r, ds with
  | .ref j, [.lst ys] => match S[j]? with
    | some (.lst xs) => if xs.length + ys.length ≤ 100000 then some (.non, S.set j (.lst (xs ++ ys))) else none
    | _ => none
  | _, _ => none
theorem mtl_extend : MtL X "list.extend" stExt := ⟨fun pins s σ H m S S' x dx d xs ds v us I q r rs rv rvs e => by
  unfold stExt at e
  split at e
  · rename_i j ys
    split at e
    · rename_i l q1
      split at e
      · rename_i hz0
        cases e
        have hz : l.length + ys.length ≤ sizeLine := Nat.le_trans hz0 (by decide)
        obtain ⟨a, rfl, ha, orr⟩ := VR.ref_at q r q1
        obtain ⟨w, rfl, rw'⟩ := rs.one
        obtain ⟨b, zs, rfl, h1, r1⟩ := vw_lst (S := S) q rw' rfl
        cases rv
        obtain ⟨u, rfl, ru⟩ := rvs.one
        cases ru
        cases orr with
        | @lst vs _ hh rr =>
          obtain ⟨z, its, n, r0, hl, e⟩ := I.lstM hh
          obtain ⟨its2, r2, ⟨o2, n2, e2, hc2, hd2, hs2⟩, hz2⟩ := I.list h1
          obtain ⟨c2, dd2, dat2, sl2⟩ := o2
          simp only at hc2 hd2 hs2
          subst hc2 hd2 hs2
          have l1 : its.length = l.length := by rw [← r0.length, rr.length]
          have l2 : its2.length = ys.length := by rw [← r2.length, r1.length]
          have hsz : its.toArray.size + its2.toArray.size ≤ sizeLine := by rw [List.size_toArray, List.size_toArray]; omega
          have hlong : ¬ (!its.toArray.isEmpty && Builtin.List.listTooLong (its.toArray.size + its2.toArray.size)) = true := by
            rw [notLongL hsz, Bool.and_false]
            exact Bool.false_ne_true
          obtain ⟨z1, z2⟩ := q.write (o' := .lst (vs ++ zs)) (ob' := .lst (l ++ ys)) ha fun e => .lst upd_same ((rr.append r1).ext e q.muts)
          refine call_meets PySem.F.slot_list_extend ⟨_, e, rfl⟩ PySem.F.entry_list_extend (PySem.F.args_list_extend_2 _ _)
            (PySem.AutoSeq1.extend_any a its.toArray n b its2.toArray n2 none sl2 hlong (by rw [List.size_toArray]; omega) (by omega)) ⟨e, e2, ?_⟩
          exact ⟨.non, _, m, I.lset (its' := its ++ its2) hh e (by simp) (r0.append r2) (by rw [List.length_append]; have h1 := r0.length; have h2 := r2.length; omega), rfl, z1, z2, .non⟩
      · cases e
    · cases e
  · cases e⟩
theorem list_extend_ty : typeOf (.builtin "list.extend") = (pure (.type "method_descriptor") : Sem Value) := PySem.F.type_list_extend
theorem pel_extend {o e : Expr} {lo : LE} {le : LE} {apos cpos : Pos} (ho : PEL X o lo) (he : PEL X e le)
    (hbase : attributeBase o "extend" X.env (eval o X.env) = eval o X.env := by rfl)
    (hfew : ((backTo cpos (starEach [e] X.env)).all (fun x => !x.1) && (backToKw cpos (keywordEach [] X.env)).all (fun x => x.1.isSome)
      && decide ([e].length + ([] : List Keyword).length + (if ([] : List Keyword).isEmpty then 0 else 1) < 30)) = true := by rfl)
    (hline : (apos.endLine == cpos.line) = true := by rfl) (hs : starEach [e] X.env = (false, eval e X.env) :: starEach [] X.env := by rfl) :
    PEL X (.Call (.Attribute o "extend" apos) [e] [] cpos) (lBM "list" stExt lo (aCons le aNil)) :=
  pel_bm PySem.F.plainAttrs_list PySem.F.slot_list_extend list_extend_ty mtl_extend ho (pal_cons he pal_nil hs) hbase hfew hline hs
/-- dict(pairs) into the store -/
def lDictN (t : LA) : LE := fun ρ S => (t ρ S).bind fun ds S1 => match ds with
  | [.lst xs] => match kvsOf xs with
    | some kvs => if (keysK kvs).Nodup ∧ kvs.length ≤ 100000 then .ok (.ref S1.length) (S1 ++ [.dct false kvs]) else .bad
    | none => .bad
  | _ => .bad
theorem pel_dictN {e : Expr} {es : List Expr} {t : LA} {p pos : Pos} (hc : X.calm = true) (hg : Gl X "dict") (hm : X.mg "dict" = none) (hv : bootBuiltins "dict" = some (.type "dict")) (ha : PAL X (e :: es) t)
    (he : starEach (e :: es) X.env = (false, eval e X.env) :: starEach es X.env := by rfl) (hpl : (backTo pos (starEach es X.env)).any (·.1) = false := by rfl) : PEL X (.Call (.Name "dict" p) (e :: es) [] pos) (lDictN t) := by
  refine ⟨fun pins s σ H m ρ S I x r hp => ?_⟩
  refine wpAny_Call_Name_kw (ld_blt I hg hm hv ?_ (by decide) (by decide))
  refine PyProof.Rows.callWith_type1 (run_seqA ha I x r hp fun ds S1 q1 vs us s1 H1 m1 I1 rv e1 x1 w1 r1 hp1 => ?_) he hpl
  split at hp1
  · rename_i xs
    split at hp1
    · rename_i kvs qk
      split at hp1
      · rename_i hk
        have e0 : lDictN t ρ S = .ok (.ref S1.length) (S1 ++ [.dct false kvs]) := by
          unfold lDictN
          rw [q1, bind_ok]
          dsimp only
          rw [qk]
          exact if_pos hk
        rw [e0]
        obtain ⟨v, rfl, w⟩ := w1.one
        obtain ⟨a, vs, rfl, h1, r1⟩ := vw_lst (S := S1) x1 w rfl
        obtain ⟨ps, ks, rfl, hp, hd, hkeys⟩ := kvs_paired r1 qk
        have hm' : mergeK [] ks = ks := by
          have := mergeK_nd ks [] (by rw [hkeys]; exact hk.1)
          simpa using this
        refine thn (call_dictP hc pins s1 σ H1 [.ref a] us (fun v' H' => ∃ l, H1 l = none ∧ v' = .ref l ∧ H' = upd H1 l (.dK ks)) I1 rv ⟨a, ps, ks, rfl, h1, L2.Paired.mapP hp (fun _ _ z => SqT.of z), fun l hl => ⟨l, hl, rfl, by rw [hm']⟩⟩) fun u s2 ⟨v2, H2, I2, rv2, l, hl, ev2, eH⟩ => ?_
        subst ev2
        subst eH
        obtain ⟨e2, x2⟩ := x1.snoc (o := .dK ks) (ob := .dct false kvs) hl fun m' H' ex q => .dct q (VDk.ext ex x1.muts hd)
        exact (vpr_of ⟨.ref l, _, _, I2, rv2, e2, x2, .ref (by rw [← x1.len]; simp)⟩).left e1
      · exact absurd rfl hp1.1
    · exact absurd rfl hp1.1
  · exact absurd rfl hp1.1
end
end MP

/-! int(a text of many figures): 1 and 900 noughts -/
namespace PySem.W
open PySem PySem.Calls PySem.NumText PyProof.Rows
theorem none_in {K : Frag} {h : Heap} {ns : Addr} {mg : Str → Option Value} {n : Str} (X : K.In h) (G : h.Ns ns mg) (e : nsIn K ns n = some none) : mg n = none := by
  obtain ⟨o, es, ep, ho, hd, _, hf⟩ := G
  unfold nsIn at e
  split at e
  · rename_i c d es' n' sl q
    have := X _ _ q
    rw [ho] at this
    cases this
    cases hd
    split at e
    · cases e
    · rename_i he
      rw [← hf]
      unfold nsFind findBy
      rw [← Array.find?_toList, he]
      rfl
  · cases e
theorem wp_maxd {M : Model} {A : Around} {E : Value → Shared → Prop} {s : Shared} {Q : Nat → Shared → Prop} (hn : s.heap.NoDigits) (h : Q 4300 s) : wpAny M A Builtin.intMaxStrDigits Q E s := by
  obtain ⟨mc, hns, hnone⟩ := hn
  unfold Builtin.intMaxStrDigits
  refine wpAny_bind (wpAny_nsGet hns ?_)
  rw [hnone]
  exact wpAny_pure h
def bigS : Str := ⟨(49 :: List.replicate 900 48).toArray⟩
theorem wp_big {M : Model} {A : Around} {E : Value → Shared → Prop} {s : Shared} {Q : Value → Shared → Prop} {v : Value} {text : List Nat} {n : Int} (hn : s.heap.NoDigits)
    (hs : ¬ (text.takeWhile (· != 0)).length ≤ 640) (hr : (int_private% "readNumeral") 4300 10 (text.takeWhile (· != 0)) = (int_private% "Numeral.value") n)
    (ha : ((text.takeWhile (· != 0)).length == text.length) = true) (h : Q (.int n s.toks) { s with toks := s.toks + 1 }) :
    wpAny M A ((int_private% "intFromText") v text 10) Q E s := by
  obtain ⟨hp, g, d, tk, os⟩ := s
  repeat (any_goals (first
    | assumption
    | (with_reducible refine wpAny_ite_false (decide_eq_false hs) ?_)
    | (with_reducible refine wpAny_ite_true (decide_eq_true ha) ?_)
    | ((with_reducible show wpAny _ _ Builtin.intMaxStrDigits _ _ _); refine wp_maxd hn ?_)
    | wp_step))
  all_goals (try rw [hr])
  all_goals (try dsimp only)
  repeat (any_goals (first
    | assumption
    | (with_reducible refine wpAny_ite_false (decide_eq_false hs) ?_)
    | (with_reducible refine wpAny_ite_true (decide_eq_true ha) ?_)
    | wp_step))
theorem big_text : numTextOf bigS = 49 :: List.replicate 900 48 := by
  unfold numTextOf
  rw [if_pos (by decide +kernel)]
  rfl
theorem big_seen : (numTextOf bigS).takeWhile (· != 0) = 49 :: List.replicate 900 48 := by
  rw [big_text]
  decide +kernel
theorem fold_noughts : ∀ (n a : Nat), (List.replicate n 48).foldl (fun acc c => acc * 10 + (c - 48)) a = a * 10 ^ n
  | 0, a => by simp
  | n + 1, a => by
    rw [List.replicate_succ, List.foldl_cons, fold_noughts n, Nat.pow_succ, Nat.mul_comm (10 ^ n) 10, ← Nat.mul_assoc]
    rfl
theorem big_list : bigS.cps.toList = 49 :: List.replicate 900 48 := rfl
theorem big_dv : digitsVal (49 :: List.replicate 900 48) = 10 ^ 900 := by
  unfold digitsVal
  rw [List.foldl_cons, fold_noughts]
  exact Nat.one_mul _
theorem big_val : PySem.intText? bigS = some ((10 ^ 900 : Nat) : Int) := by
  have hd : AllDigits bigS.cps.toList := by
    rw [big_list]
    intro c h
    rcases List.mem_cons.mp h with rfl | h
    · decide
    · rw [List.eq_of_mem_replicate h]; decide
  have e := intText_digits (x := bigS) hd (by rw [big_list]; exact fun z => nomatch z) (by
    show bigS.cps.size ≤ 4300
    rw [← Array.length_toList, big_list, List.length_cons, List.length_replicate]
    decide)
  rw [big_list, big_dv] at e
  exact e
theorem big_read : (int_private% "readNumeral") 4300 10 ((numTextOf bigS).takeWhile (· != 0)) = (int_private% "Numeral.value") ((10 ^ 900 : Nat) : Int) := by
  rcases read4300 bigS (by show bigS.cps.size ≤ _; rw [← Array.length_toList, big_list, List.length_cons, List.length_replicate, sizeLine_eq]; decide) with ⟨n, h1, _, h3⟩ | ⟨h1, _⟩
  · rw [big_val] at h1
    injection h1 with h1
    subst h1
    exact h3
  · rw [big_val] at h1
    cases h1
theorem meets_big (u : Tok) : Meets (Builtin.«int.__new__» ⟨[.type "int", .str bigS u], []⟩) (fun _ R s => s.heap.NoDigits ∧ R (.ok (.ret (.int ((10 ^ 900 : Nat) : Int) s.toks))) { s with toks := s.toks + 1 }) :=
  .of_wp fun prog w A R s h => by
    obtain ⟨hn, h⟩ := h
    obtain ⟨hp, g, d, tk, os⟩ := s
    have f1 := F.conv_sub_int
    have f2 := F.madeHere_int
    have f3 := KIN.str_int
    have f4 := KIN.str_idx
    have f5 := KIN.str_trunc
    have f6 : typeOf (.str bigS u) = pure (.type "str") := rfl
    have hs : ¬ ((numTextOf bigS).takeWhile (· != 0)).length ≤ 640 := by rw [big_seen]; decide +kernel
    have ha : (((numTextOf bigS).takeWhile (· != 0)).length == (numTextOf bigS).length) = true := by rw [big_seen, big_text]; decide +kernel
    have hk := KIN.Hid.mk (And.intro hs (And.intro big_read ha))
    clear hs ha
    generalize bigS = x at *
    repeat (any_goals (first
      | assumption
      | ((with_reducible show wpAny _ _ ((int_private% "intFromText") _ _ _) _ _ _); refine wp_big hn hk.out.1 hk.out.2.1 hk.out.2.2 ?_)
      | wp_step))
    all_goals first | exact ⟨_, rfl, h⟩ | skip
end PySem.W
namespace MP
open PySem PySem.Spec PyProof.Rows L2
section
variable {X : Cx}
theorem Inv.nodigits {pins : List (Addr × Obj)} {σ : L2.St} {H : Hp} {s : Shared} (I : Inv X pins σ H s) (e : PySem.W.nsIn X.K cStatics "sys.int_max_str_digits" = some none) : s.heap.NoDigits := by
  obtain ⟨mc, h1, _⟩ := I.nolimit
  exact ⟨mc, h1, PySem.W.none_in I.kIn h1 e⟩
def gIntBig : GC := fun _ ds => match ds with
  | [.str z] => if z = PySem.W.bigS then some (.int ((10 ^ 900 : Nat) : Int)) else none
  | _ => none
theorem cl_intBig (e : PySem.W.nsIn X.K cStatics "sys.int_max_str_digits" = some none) : CallL X (.type "int") gIntBig := ⟨fun pins s σ H m S xs ds d us I q r rv e' => by
  unfold gIntBig at e'
  split at e'
  · split at e'
    · rename_i z hz
      cases e'
      subst hz
      obtain ⟨v, rfl, w⟩ := r.one
      cases w
      obtain ⟨u, rfl, ru⟩ := rv.one
      obtain ⟨t, rfl⟩ := ru
      exact call_int_1 (PySem.W.meets_big t) ⟨Inv.nodigits I e, ⟨rfl, .int _, H, m, I.tok _, ⟨_, rfl⟩, Ext.refl, q, .int _⟩⟩
    · cases e'
  · cases e'⟩
end
end MP

/-! sorted(zip(a, b)), tuple(zip(a, b)) of two lists -/
namespace MP
open PySem PySem.W PySem.Spec PyProof.Rows L2
open AutoSeq1 (wpAny_loadPart')
section
variable {prog : Program} {w : World} {A : Around} {E : Value → Shared → Prop} {s : Shared} {z TI TO i1 i2 l1 l2 : Addr} {xs ys : Array Value}
theorem zl_collect {R : List Value → Shared → Prop} (hh : A.handled = none) (D : ZipApart z TI TO i1 i2 l1 l2) (hz : IsZip s.heap z TI TO .none) (ti : IsPair s.heap TI (.ref i1) (.ref i2)) (to : ∃ p q, IsPair s.heap TO p q) (ia : s.heap.IsListIter i1 l1 0) (ib : s.heap.IsListIter i2 l2 0) (la : s.heap.IsList l1 xs) (lb : s.heap.IsList l2 ys) (hn : min xs.size ys.size ≤ sizeLine)
    (h : ∀ (h' : Heap) (tk : Nat) (acc : Array Value) (as : List Addr), (∀ b o, b ∉ [z, TO, i1, i2] → s.heap.get? b = some o → h'.get? b = some o) → as.length = min xs.size ys.size → Prs xs ys s.heap.objs.size h' as →
      acc.toList = as.map Value.ref → R acc.toList { s with heap := h', toks := tk }) : wpAny (model prog w) A (collect (.ref z)) R E s := by
  obtain ⟨o1, q1, _⟩ := id ia
  obtain ⟨o2, q2, _⟩ := id ib
  obtain ⟨p, q, q3⟩ := id to
  obtain ⟨o4, q4, _⟩ := id la
  obtain ⟨o5, q5, _⟩ := id lb
  have lt : ∀ {b o}, s.heap.get? b = some o → b < s.heap.objs.size := fun e => Heap.lt_size e
  unfold collect
  refine wpAny_bind (wpAny_runValue (codeAny_builtin entry_proto_collect' ?_))
  rw [Around.under_plainId PySem.F.plain_proto_collect _]
  show wpAny _ A.in1 (newList [] >>= fun l => again (.builtin "list.__iadd__" ⟨[l, .ref z], []⟩)) _ _ s
  refine wpAny_bind (wpAny_newObj_type ?_)
  refine wpAny_pure ⟨plainId_quiet PySem.F.plain_list_iadd _, codeAny_builtin entry_list_iadd' ?_⟩
  rw [Around.under_plainId PySem.F.plain_list_iadd _]
  have hL : (s.heap.push { cls := .type "list", data := .seq ([] : List Value).toArray }).get? s.heap.objs.size = some { cls := .type "list", data := .seq #[] } := Heap.get?_push_size _ rfl
  show wpAny _ A.in1 (Builtin.List.listExtendWith (.ref s.heap.objs.size) (.ref z) (.ref s.heap.objs.size)) _ _ _
  have up : ∀ b o, s.heap.get? b = some o → (s.heap.push { cls := .type "list", data := .seq ([] : List Value).toArray }).get? b = some o := fun _ _ e => Heap.get?_push_of_some _ e
  have nS : s.heap.objs.size ∉ [z, TI, TO, i1, i2, l1, l2] := fun q => by
    simp only [List.mem_cons, List.not_mem_nil, or_false] at q
    rcases q with q | q | q | q | q | q | q
    · exact absurd (lt hz) (by rw [← q]; exact Nat.lt_irrefl _)
    · exact absurd (lt ti) (by rw [← q]; exact Nat.lt_irrefl _)
    · exact absurd (lt q3) (by rw [← q]; exact Nat.lt_irrefl _)
    · exact absurd (lt q1) (by rw [← q]; exact Nat.lt_irrefl _)
    · exact absurd (lt q2) (by rw [← q]; exact Nat.lt_irrefl _)
    · exact absurd (lt q4) (by rw [← q]; exact Nat.lt_irrefl _)
    · exact absurd (lt q5) (by rw [← q]; exact Nat.lt_irrefl _)
  have wlo : ∀ b ∈ [z, TO, i1, i2], b ≤ s.heap.objs.size := fun b q => by
    simp only [List.mem_cons, List.not_mem_nil, or_false] at q
    rcases q with rfl | rfl | rfl | rfl
    · exact Nat.le_of_lt (lt hz)
    · exact Nat.le_of_lt (lt q3)
    · exact Nat.le_of_lt (lt q1)
    · exact Nat.le_of_lt (lt q2)
  have key := zl_extend (prog := prog) (w := w) (A := A) (s := { s with heap := s.heap.push { cls := .type "list", data := .seq ([] : List Value).toArray } }) (lo := s.heap.objs.size)
    (R := fun (q : Result) (s' : Shared) => ∃ (h' : Heap) (tk : Nat) (acc' : Array Value) (c' : Nat) (as : List Addr), q = .ok (.ret (.ref s.heap.objs.size)) ∧ s' = { s with heap := h', toks := tk } ∧
      (∀ b o, b ∉ [z, TO, i1, i2] → s.heap.get? b = some o → h'.get? b = some o) ∧ h'.get? s.heap.objs.size = some { cls := .type "list", dict := none, data := .seq acc' c', slots := #[] } ∧ as.length = min xs.size ys.size ∧ Prs xs ys s.heap.objs.size h' as ∧ acc'.toList = as.map Value.ref)
    hh D nS wlo (Nat.le_refl _) (by rw [Heap.size_push]; exact Nat.lt_succ_self _) hn (.ref s.heap.objs.size) 0
    ⟨up _ _ ti, ia.at fun o e => up _ o e, ib.at fun o e => up _ o e, la.at fun o e => up _ o e, lb.at fun o e => up _ o e, .inl ⟨up _ _ hz, p, q, up _ _ q3⟩⟩ hL
    (fun h' tk acc' c' as hk hS' hl hG hacc => ⟨h', tk, acc', c', as, rfl, rfl, fun b o nb e => hk b o (fun q => by
      rw [List.mem_cons] at q
      rcases q with rfl | q
      · exact Nat.lt_irrefl _ (lt e)
      · exact nb q) (up b o e), hS', hl, hG, hacc⟩) (up _ _ hz)
  refine wpAny_mono key (fun fin s' x => ?_) fun e s' x => ?_
  · cases fin with
    | done f =>
      obtain ⟨h', tk, acc', c', as, e, rfl, hk, hS', hl, hG, hacc⟩ := x
      cases e
      show wpAny _ A (load s.heap.objs.size >>= _) _ _ _
      refine wpAny_bind (wpAny_load hS' ?_)
      exact wpAny_pure (h h' tk acc' as hk hl hG hacc)
    | again c₁ =>
      refine ⟨x.1, codeAny_mono x.2 fun q s₂ y => ?_⟩
      obtain ⟨h', tk, acc', c', as, rfl, rfl, hk, hS', hl, hG, hacc⟩ := y
      show wpAny _ A (load s.heap.objs.size >>= _) _ _ _
      refine wpAny_bind (wpAny_load hS' ?_)
      exact wpAny_pure (h h' tk acc' as hk hl hG hacc)
  · obtain ⟨_, _, _, _, _, e', _⟩ := x
    cases e'
end
section
variable {prog : Program} {w : World}
theorem new_tuple_go {A A' : Around} {R : Result → Shared → Prop} {s s1 : Shared} {z : Addr} {T : String} {C : Heap → Nat → List Value → Prop} (hne : T ≠ "tuple") (hT : s.TypeIs (.ref z) T)
    (hc : ∀ {Q : List Value → Shared → Prop} {E' : Value → Shared → Prop}, (∀ (h' : Heap) (tk : Nat) (acc : List Value), C h' tk acc → acc.length ≤ sizeLine → Q acc { s1 with heap := h', toks := tk }) → wpAny (model prog w) A (collect (.ref z)) Q E' s)
    (h : ∀ (h' : Heap) (tk : Nat) (acc : List Value), C h' tk acc → R (.ok (.ret (.ref h'.objs.size))) { s1 with heap := h'.push { cls := .type "tuple", data := .seq acc.toArray }, toks := tk }) :
    wpAny (model prog w) A (Builtin.«tuple.__new__» ⟨[.type "tuple", .ref z], []⟩) (fun fin s' => match fin with
      | .done f => R (.ok f) s'
      | .again c' => c'.quiet = true ∧ codeAny (model prog w) A' c' R s') (fun e s' => R (.error e) s') s := by
  obtain ⟨hp, g, d, tk, os⟩ := s
  have hsub := sub_tuple_self
  have hinit := init_tuple_lookup
  have hmh := madeHere_tuple
  wp_walk using wpAny_typeOf hT, hc
  intro h' tk' acc hC hl
  refine wpAny_bind (wpAny_pure ?_)
  show wpAny _ _ (Builtin.Tuple.tupleExact acc.toArray >>= fun v => ret v) _ _ _
  unfold Builtin.Tuple.tupleExact
  refine wpAny_bind (wpAny_newObj_type ?_ (by show acc.toArray.size ≤ sizeLine; rw [List.size_toArray]; exact hl))
  refine wpAny_pure ?_
  exact h h' tk' acc hC
end
section
variable {X : Cx} {pins : List (Addr × Obj)} {σ : L2.St} {H1 : Hp} {s1 : Shared} {m1 : List Addr} {S1 : Sto}
/-- a call f(zip(xs, ys)) whose callee collects -/
theorem zip_collected {A' : Around} {R : List Value → Shared → Prop} {Ex : Value → Shared → Prop} {v v2 : V} {u u2 : Value} {dx dy : D} {xs ys : List D} (hA : A'.handled = none) (I1 : Inv X pins σ H1 s1) (x1 : SR X.K m1 H1 S1) (k1 : VR X.K m1 H1 v dx) (k2 : VR X.K m1 H1 v2 dy) (vx : vw S1 dx = .lst xs) (vy : vw S1 dy = .lst ys) (ru : RelV v u) (ru2 : RelV v2 u2) (hz : (zipD xs ys).length ≤ 100000) {Q : Value → Shared → Prop} {A'' : Around} {E'' : Value → Shared → Prop}
    (go : ∀ (z : Addr) (s2 : Shared), s2.TypeIs (.ref z) "zip" → (∀ (R : List Value → Shared → Prop) (A' : Around) (Ex : Value → Shared → Prop), A'.handled = none → (∀ (h' : Heap) (tk : Nat) (acc : List Value) (ks : List V) (H2 : Hp), (∀ b o, s1.heap.get? b = some o → h'.get? b = some o) → Inv X pins σ H2 { s1 with heap := h', toks := tk } → Ext m1 H1 m1 H2 → SR X.K m1 H2 S1 → Vals ks acc → VRs X.K m1 H2 ks (zipD xs ys) → R acc { s1 with heap := h', toks := tk }) →
      wpAny (model X.prog X.w) A' (collect (.ref z)) R Ex s2) → Q (.ref z) s2) :
    wpAny (model X.prog X.w) A'' (call (.type "zip") [u, u2]) Q E'' s1 := by
  obtain ⟨a, as_, rfl, h1, r2⟩ := vw_lst x1 k1 vx
  obtain ⟨b, bs_, rfl, h2, r3⟩ := vw_lst x1 k2 vy
  obtain rfl : u = Value.ref a := ru
  obtain rfl : u2 = Value.ref b := ru2
  obtain ⟨its, rvv, pl, _⟩ := I1.list h1
  obtain ⟨its2, rvw, pl2, _⟩ := I1.list h2
  have hl1 : its.toArray.size = xs.length := by rw [List.size_toArray, ← rvv.length, r2.length]
  have hl2 : its2.toArray.size = ys.length := by rw [List.size_toArray, ← rvw.length, r3.length]
  have hmin : min its.toArray.size its2.toArray.size = (zipD xs ys).length := by rw [hl1, hl2, zipD_length]
  refine call_zip_2 pl.isList pl2.isList fun h' hzz hTI hTO hi1 hi2 hsz hk => ?_
  refine go _ _ ⟨_, hzz, rfl⟩ fun R A' Ex hA hR => ?_
  have I2 : Inv X pins σ H1 { s1 with heap := h' } := I1.kept (t' := s1.toks) hk
  refine zl_collect (s := { s1 with heap := h' }) hA (PySem.W.ktu_apart s1.heap.objs.size a b pl.lt pl2.lt) hzz hTI ⟨_, _, hTO⟩ hi1 hi2 (pl.isList.at fun o e => hk _ o e) (pl2.isList.at fun o e => hk _ o e) (by rw [hmin]; exact Nat.le_trans hz (by decide)) fun h2' tk acc as keep hl G hacc => ?_
  dsimp only at keep G ⊢
  have keep1 : ∀ b o, s1.heap.get? b = some o → h2'.get? b = some o := fun b o e => keep b o (fun q => by
    have hb := Heap.lt_size e
    simp only [List.mem_cons, List.not_mem_nil, or_false] at q
    rcases q with q | q | q | q
    · exact absurd hb (by rw [q]; exact Nat.not_lt.mpr (Nat.le_add_right _ _))
    · exact absurd hb (by rw [q]; exact Nat.not_lt.mpr (Nat.le_add_right _ _))
    · exact absurd hb (by rw [q]; exact Nat.lt_irrefl _)
    · exact absurd hb (by rw [q]; exact Nat.not_lt.mpr (Nat.le_add_right _ _))) (hk b o e)
  have hsz' : s1.heap.objs.size ≤ h'.objs.size := by rw [hsz]; exact Nat.le_add_right _ _
  obtain ⟨H2, P⟩ := lay_prs (X := X) (sz := s1.heap.objs.size) (xs := xs) (ys := ys) G hsz' (by rw [hl, hmin]) x1 (I1.hok.kept keep1) (fun b q => I1.hok.fresh q) rvv rvw r2 r3 as.length (Nat.le_refl _)
  have tk1 : as.take as.length = as := List.take_length
  have tk2 : (zipD xs ys).take as.length = zipD xs ys := by rw [hl, hmin, List.take_length]
  have vr := P.vr
  rw [tk1, tk2] at vr
  have J : Inv X pins σ H2 { s1 with heap := h2', toks := tk } := inv_more I1 keep1 P.old P.low P.ok
  exact hR h2' tk acc.toList (as.map V.ref) H2 keep1 J P.ext P.sr (by rw [hacc]; exact vals_refs as) vr
end
/-- sorted(zip(xs, ys)) -/
def gSortZip : GC := fun S ds => match ds with
  | [dx, dy] => match vw S dx, vw S dy with
    | .lst xs, .lst ys => if (zipD xs ys).length ≤ 100000 ∧ srtOk (zipD xs ys) = true then some (.lst ((zipD xs ys).mergeSort leD)) else none
    | _, _ => none
  | _ => none
theorem pel_sortZip {X : Cx} {e e2 : Expr} {t : LA} {p p2 q pos : Pos} (hc : X.calm = true) (hu : X.A.units + 64 < cLine) (hg : Gl X "sorted") (hm : X.mg "sorted" = none) (hg2 : Gl X "zip") (hm2 : X.mg "zip" = none) (ha : PAL X [e, e2] t)
    (hs : starEach [e, e2] X.env = (false, eval e X.env) :: starEach [e2] X.env := by rfl) (hpl : (backTo q (starEach [e2] X.env)).any (·.1) = false := by rfl) : PEL X (.Call (.Name "sorted" p) [.Call (.Name "zip" p2) [e, e2] [] q] [] pos) (lCallB gSortZip t) := by
  refine ⟨fun pins s σ H m ρ S I x r hp => ?_⟩
  refine Call_ (ld_blt I hg hm (u := .builtin "sorted") (by decide +kernel) ?_)
  refine PyProof.Rows.callWith_builtin1 (PyProof.Rows.args_cons ?_ rfl) rfl rfl
  refine Call_ (ld_blt I hg2 hm2 boot_zip ?_)
  refine PyProof.Rows.callWith_type1 (run_seqA ha I x r hp fun ds S1 q1 vs us s1 H1 m1 I1 rv e1 x1 w1 r1 hp1 => ?_) hs hpl
  obtain ⟨d, q2⟩ := lift_ok hp1
  have e0 : lCallB gSortZip t ρ S = .ok d S1 := by unfold lCallB; rw [q1, bind_ok, q2]; rfl
  rw [e0]
  unfold gSortZip at q2
  split at q2
  · rename_i dx dy
    split at q2
    · rename_i xs ys vx vy
      split at q2
      · rename_i hz
        cases q2
        obtain ⟨v, v2, rfl, k1, k2⟩ := w1.two
        obtain ⟨u, u2, rfl, ru, ru2⟩ := Vals.two rv
        obtain ⟨h1, h2, h3, h4, h5⟩ := srtOk_inv hz.2
        refine zip_collected (A' := X.A) (R := fun _ _ => True) (Ex := fun _ _ => True) (I1.ok.hd hc) I1 x1 k1 k2 vx vy ru ru2 hz.1 fun z s2 hT go => ?_
        refine PyProof.Rows.args_nil ?_
        refine PySem.Calls.call_function_entry PyProof.Rows.kind_sorted PyProof.Rows.plain_sorted PyProof.Rows.entry_sorted (PyProof.Rows.args_sorted1 _) ?_
        unfold Builtin.«sorted»
        refine wpAny_bind (m := checkCount "sorted" 1 1 _) (wpAny_pure ?_)
        refine wpAny_bind (go _ X.A.in1 _ (I1.ok.hd hc) fun h' tk acc ks H2 hkp J ex x2 k1 k2 => ?_)
        have hal : acc.length = (zipD xs ys).length := by rw [← k1.length, k2.length]
        have hz5 : acc.length ≤ sizeLine := by rw [hal]; exact h5
        refine wpAny_bind (wpAny_newList ?_ hz5)
        have hoL : (h'.push (seqObj "list" acc.toArray 0)).get? h'.objs.size = some (seqObj "list" acc.toArray 0) := Heap.get?_push_size _ rfl
        show wpAny _ _ _ _ _ { s1 with heap := h'.push (seqObj "list" acc.toArray 0), toks := tk }
        have er := each_reads J k1 k2 h1
        obtain ⟨HH, hHH⟩ : ∃ z, z = h'.push (seqObj "list" acc.toArray 0) := ⟨_, rfl⟩
        have er' : PySem.W.EachIs (fun v b => ∃ as, Reads (PySem.W.sortingHeap HH h'.objs.size acc) v (encD b) as) acc (zipD xs ys) := er.mono fun _ _ ⟨as, r⟩ => ⟨as, PyProof.Rows.Reads.keeps (fun b o z => PySem.W.sortingHeap_old (Nat.ne_of_lt (Heap.lt_size z)) (hHH ▸ Heap.get?_push_of_some _ z)) r⟩
        have hR := each_isV (K := X.K) (m := m1) (H := H2) k1 k2
        rw [← hHH] at hoL ⊢
        refine wpAny_bind (wpAny_holding (wpAny_call_entry PyProof.Rows.slot_list_sort ⟨_, hoL, rfl⟩ PyProof.Rows.entry_list_sort (PySem.W.list_sort_vals (κ := PySem.W.dataKind (PySem.W.sortingHeap HH h'.objs.size acc) ((zipD xs ys).map encD)) (s := { s1 with heap := HH, toks := tk }) hoL
          (PySem.W.SortsAt.data (s := { s1 with heap := PySem.W.sortingHeap HH h'.objs.size acc, toks := tk }) (PySem.W.each_map (R := fun v d => ∃ as, Reads (PySem.W.sortingHeap HH h'.objs.size acc) v d as) encD er') h2 h3 (PySem.W.bound_map fun b hb => by have := h4 b hb; show X.A.units + 1 + 1 + _ < cLine; omega)) hz5 ⟨.none, rfl, ?_⟩) (PyProof.Rows.args_list_sort _)))
        have hE := PySem.W.sortVals_data false hR er' h2
        have ho := PySem.W.sortVals_length (κ := PySem.W.dataKind (PySem.W.sortingHeap HH h'.objs.size acc) ((zipD xs ys).map encD)) (vs := acc) false rfl
        obtain ⟨ws, q1, q2⟩ := of_each hE
        obtain ⟨ep, he'⟩ := PyProof.Rows.sortedHeap_at (vs := acc) (out := (PySem.W.sortVals (PySem.W.dataKind (PySem.W.sortingHeap HH h'.objs.size acc) ((zipD xs ys).map encD)) false acc acc).toArray) hoL
        have hn : H2 h'.objs.size = none := J.hok.fresh (Nat.le_refl _)
        refine wpAny_pure ⟨_, rfl, (vpr_of ⟨.ref h'.objs.size, upd H2 h'.objs.size (.lst ws), m1, J.laid (t' := tk) (fun b u e => ?_) (Nat.le_refl _) ⟨by rw [q1.length, ho]; exact hz5, _, ep, q1, he'⟩, rfl, ex.trans (Ext.fresh hn), x2.fresh hn, vr_newLst x2 hn q2⟩).left e1⟩
        have hb : b < h'.objs.size := Heap.lt_size e
        rw [PyProof.Rows.sortedHeap_old (Nat.ne_of_lt hb) (by rw [hHH, size_push']; exact Nat.lt_succ_of_lt hb), hHH]
        exact Heap.get?_push_of_some _ e
      · cases q2
    · cases q2
  · cases q2
/-- tuple(zip(xs, ys)) -/
def gTupZip : GC := fun S ds => match ds with
  | [dx, dy] => match vw S dx, vw S dy with
    | .lst xs, .lst ys => if (zipD xs ys).length ≤ 100000 then some (.ftup (zipD xs ys)) else none
    | _, _ => none
  | _ => none
theorem pel_tupZip {X : Cx} {e e2 : Expr} {t : LA} {p p2 q pos : Pos} (hc : X.calm = true) (hg : Gl X "tuple") (hm : X.mg "tuple" = none) (hg2 : Gl X "zip") (hm2 : X.mg "zip" = none) (ha : PAL X [e, e2] t)
    (hs : starEach [e, e2] X.env = (false, eval e X.env) :: starEach [e2] X.env := by rfl) (hpl : (backTo q (starEach [e2] X.env)).any (·.1) = false := by rfl) : PEL X (.Call (.Name "tuple" p) [.Call (.Name "zip" p2) [e, e2] [] q] [] pos) (lCallB gTupZip t) := by
  refine ⟨fun pins s σ H m ρ S I x r hp => ?_⟩
  refine Call_ (ld_blt I hg hm (u := .type "tuple") (by decide +kernel) ?_)
  refine PyProof.Rows.callWith_type1 (PyProof.Rows.args_cons ?_ rfl) rfl rfl
  refine Call_ (ld_blt I hg2 hm2 boot_zip ?_)
  refine PyProof.Rows.callWith_type1 (run_seqA ha I x r hp fun ds S1 q1 vs us s1 H1 m1 I1 rv e1 x1 w1 r1 hp1 => ?_) hs hpl
  obtain ⟨d, q2⟩ := lift_ok hp1
  have e0 : lCallB gTupZip t ρ S = .ok d S1 := by unfold lCallB; rw [q1, bind_ok, q2]; rfl
  rw [e0]
  unfold gTupZip at q2
  split at q2
  · rename_i dx dy
    split at q2
    · rename_i xs ys vx vy
      split at q2
      · rename_i hz
        cases q2
        obtain ⟨v, v2, rfl, k1, k2⟩ := w1.two
        obtain ⟨u, u2, rfl, ru, ru2⟩ := Vals.two rv
        refine zip_collected (A' := X.A) (R := fun _ _ => True) (Ex := fun _ _ => True) (I1.ok.hd hc) I1 x1 k1 k2 vx vy ru ru2 hz fun z s2 hT go => ?_
        refine PyProof.Rows.args_nil ?_
        refine callType_codes (T := "tuple") (Bi := Builtin.«object.__init__») (Q₁ := fun r s₁ => s₁.TypeIs r "tuple" ∧ VPr X pins σ m H (.ok (.ftup (zipD xs ys)) S1) r s₁) PySem.F.called_tuple (PySem.F.typeCall_tuple_1 _) PySem.F.entry_object_init ?_ ?_
        · refine codeAny_of_tree ?_
          show wpAny _ _ (do checkBuiltinCall "tuple.__new__" ⟨[.type "tuple", .ref z], []⟩; again (.builtin "tuple.__new__" ⟨[.type "tuple", .ref z], []⟩)) _ _ s2
          refine wpAny_bind (wpAny_of_eq (PySem.F.newCall_tuple_1 _) (wpAny_pure ⟨plainId_quiet (by decide +kernel) _, codeAny_builtin PySem.F.entry_tuple_new ?_⟩))
          rw [Around.under_plainId (by decide +kernel) _]
          refine new_tuple_go (A := X.A.in1.in1) (A' := X.A.in1) (T := "zip") (s1 := s1) (C := fun h' tk acc => ∃ ks H2, Inv X pins σ H2 { s1 with heap := h', toks := tk } ∧ Ext m1 H1 m1 H2 ∧ SR X.K m1 H2 S1 ∧ Vals ks acc ∧ VRs X.K m1 H2 ks (zipD xs ys)) (by decide) hT (fun hq => go _ _ _ (I1.ok.hd hc) fun h' tk acc ks H2 hkp J ex x2 k1 k2 => hq h' tk acc ⟨ks, H2, J, ex, x2, k1, k2⟩ (by rw [← k1.length, k2.length]; exact Nat.le_trans hz (by decide))) ?_
          · rintro h' tk acc ⟨ks, H2, J, ex, x2, k1, k2⟩
            have hn : H2 h'.objs.size = none := J.hok.fresh (Nat.le_refl _)
            have hzl : ks.length ≤ sizeLine := by rw [k2.length]; exact Nat.le_trans hz (by decide)
            exact ⟨⟨_, Heap.get?_push_size _ rfl, rfl⟩, (vpr_of ⟨.ref h'.objs.size, upd H2 h'.objs.size (.frz { cls := .type "tuple", data := .seq acc.toArray } (.tup ks)), m1, J.laid (t' := tk) (o := .frz { cls := .type "tuple", data := .seq acc.toArray } (.tup ks)) (fun b o e => Heap.get?_push_of_some _ e) (Nat.le_refl _) ⟨Heap.get?_push_size _ rfl, hzl, acc, k1, IsTup.new h' _⟩, rfl, ex.trans (Ext.fresh hn), x2.fresh hn, .ftup rfl upd_same (k2.fresh x2 hn)⟩).left e1⟩
        · rintro obj s₁ ⟨ht, hq⟩
          exact ⟨ht, PySem.F.args_object_init_2 _ _, object_init_meets PySem.F.called_tuple.init.lookup PySem.F.called_tuple.made (by decide) _ _ _ _ s₁ ⟨ht, rfl, hq⟩⟩
      · cases q2
    · cases q2
  · cases q2
end MP

namespace MP
open PySem PySem.Spec PyProof.Rows L2
section
variable {P : Program} {w : World} {A : Around} {R : Result → Shared → Prop} {E : Value → Shared → Prop} {s : Shared}
set_option maxHeartbeats 3200000 in
theorem set_pairs_list {l : Addr} {vs : Array Value} {ks : List (Addr × List Key)} {Q : Value → Shared → Prop} (hd : A.handled = none) (hu : A.units + 3 < cLine) (hl : s.heap.IsList l vs) (hx : vs.toList = ks.map fun p => Value.ref p.1) (hk : ∀ p ∈ ks, TuK P w s.heap p.2 p.1) (hz : ks.length < 64)
    (q : ∀ (h' : Heap) (tk : Nat), (∃ L es ep t, StT P w h' s.heap.objs.size L es ep t ∧ Met ks ks.length L) → (∀ b o, s.heap.get? b = some o → h'.get? b = some o) → Q (.ref s.heap.objs.size) { s with heap := h', toks := tk }) :
    wpAny (model P w) A (call (.type "set") [.ref l]) Q E s := by
  have vz : vs.size = ks.length := by
    have e := congrArg List.length hx
    rw [Array.length_toList, List.length_map] at e
    exact e
  obtain ⟨c, tl, mro⟩ := PySem.F.called_set.mro
  have f1 := PySem.F.called_set.made
  have f2 := PySem.F.called_set.sub
  have f3 := PySem.F.called_set.notType
  have f4 := PySem.F.called_set.canCreate
  have f5 := PySem.F.typeCall_set_1 (.ref l)
  refine wpAny_call (codeAny_of_tree ?_)
  show wpAny _ _ (callAny (.type "set") _) _ _ _
  refine wpAny_pure ⟨Code.quiet_builtin _ (by decide +kernel), codeAny_builtin PySem.F.entry_type_call ?_⟩
  rw [Around.under_plain (weight_type_call_type "set" [.ref l] []) rfl]
  repeat (any_goals (first | assumption | wp_step))
  refine codeAny_mono (code_set_led1 (.ref l) (E := E) (Q₁ := fun u s1 => u = .ref s.heap.objs.size ∧ s1 = { s with heap := s.heap.push { cls := .type "set", dict := none, data := .set #[] 0 (.fresh 0 0 (!w.params.followText "set-order")) } }) ⟨rfl, rfl⟩) fun r s1 hr => ?_
  rcases r with e | (_ | _ | _ | u)
  · exact hr
  · exact hr.elim
  · exact hr.elim
  · exact hr.elim
  obtain ⟨rfl, rfl⟩ := hr
  have fresh : ∀ h', h'.get? s.heap.objs.size = some { cls := .type "set", dict := none, data := .set #[] 0 (.fresh 0 0 (!w.params.followText "set-order")) } → StT P w h' s.heap.objs.size [] #[] 0 (.fresh 0 0 (!w.params.followText "set-order")) := fun h' e => stT_fresh e
  generalize (!w.params.followText "set-order") = led at fresh ⊢
  have at0 : (s.heap.push { cls := .type "set", dict := none, data := .set #[] 0 (.fresh 0 0 led) }).get? s.heap.objs.size = some { cls := .type "set", dict := none, data := .set #[] 0 (.fresh 0 0 led) } := Heap.get?_push_size _ rfl
  have ty0 : Shared.TypeIs { s with heap := s.heap.push { cls := .type "set", dict := none, data := .set #[] 0 (.fresh 0 0 led) } } (.ref s.heap.objs.size) "set" := ⟨_, at0, rfl⟩
  have g1 := PySem.F.called_set.init.lookup
  have g2 := PySem.F.called_set.init.bind (.ref s.heap.objs.size)
  repeat (any_goals (first | assumption | wp_step))
  refine codeAny_mono (codeAny_call_builtin (R := wants (fun r s2 => r = .none ∧ ∃ h' tk, s2 = { s with heap := h', toks := tk } ∧ (∃ L es ep t, StT P w h' s.heap.objs.size L es ep t ∧ Met ks ks.length L) ∧ (∀ b o, s.heap.get? b = some o → h'.get? b = some o)) E) PySem.F.called_set.init.plain PySem.F.entry_set_init (check_set_init_1 ty0 ?_)) fun r2 s2 hr2 => ?_
  · obtain ⟨⟨lc, ld, lda, lsl⟩, el, ec, ln, ed⟩ := hl
    simp only at ec ed
    subst ec
    subst ed
    have hlt : l < s.heap.objs.size := Heap.lt_size el
    have el2 : (s.heap.push { cls := .type "set", dict := none, data := .set #[] 0 (.fresh 0 0 led) }).get? l = some { cls := .type "list", dict := ld, data := .seq vs ln, slots := lsl } := Heap.get?_push_of_some _ el
    have hl1 : (s.heap.push { cls := .type "set", dict := none, data := .set #[] 0 (.fresh 0 0 led) }).IsList l vs := ⟨_, el2, rfl, ln, rfl⟩
    have k1 := PySem.F.sub_list_set
    have k2 := PySem.F.sub_list_frozenset
    have k3 : (Value.type "list" == Value.type "dict") = false := by decide
    unfold Builtin.«set.__init__» noKeywords Builtin.Frozenset.updateFrom
    generalize hPI : pyIter = PI
    wp_walk
    subst hPI
    refine wpAny_pyIter_list hl1 (wpAny_bind (wpAny_runValue ?_))
    have hh3 : A.in1.in1.in1.handled = none := by simp [hd]
    have n1 : l ≠ (s.heap.push { cls := .type "set", dict := none, data := .set #[] 0 (.fresh 0 0 led) }).objs.size := by
      rw [Heap.size_push]; exact Nat.ne_of_lt (Nat.lt_succ_of_lt hlt)
    have n2 : s.heap.objs.size ∉ [(s.heap.push { cls := .type "set", dict := none, data := .set #[] 0 (.fresh 0 0 led) }).objs.size, l] := by
      rw [Heap.size_push]
      simp only [List.mem_cons, List.not_mem_nil, or_false, not_or]
      exact ⟨Nat.ne_of_lt (Nat.lt_succ_self _), Nat.ne_of_gt hlt⟩
    have out : ∀ b, s.heap.objs.size ≤ b → s.heap.get? b = none := fun b hb => by
      cases z : s.heap.get? b with
      | none => rfl
      | some o => exact (Nat.not_lt.mpr hb (Heap.lt_size z)).elim
    refine loopT ((Walks.list hh3 _ l n1 vs).toS) s.heap.objs.size n2 ks vz.symm (by omega) hu (fun i v hv => ?_) s.heap hk (out _ (Nat.le_refl _)) (fun b hb => out b ?_) (vs.size - 0) 0 _ (by omega) (Nat.zero_le _) ⟨⟨_, Heap.get?_push_size _ rfl, rfl, rfl⟩, (hl1.push _)⟩ (fun b o e => Heap.get?_push_of_some _ (Heap.get?_push_of_some _ e)) ?_ fun s' mv q1 hS => ?_
    · have y : vs.toList[i]? = some v := by rw [Array.getElem?_toList]; exact hv
      rw [hx, List.getElem?_map] at y
      cases z : ks[i]? with
      | none => rw [z] at y; cases y
      | some p => rw [z] at y; cases y; exact ⟨p, rfl, rfl⟩
    · have : b = (s.heap.push { cls := .type "set", dict := none, data := .set #[] 0 (.fresh 0 0 led) }).objs.size := by simpa using hb
      rw [this, Heap.size_push]
      exact Nat.le_succ _
    · exact ⟨[], #[], 0, _, fresh _ (Heap.get?_push_of_some _ at0), ⟨fun p hp => (nomatch hp), fun p hp => by simp at hp, Nat.le_refl _⟩⟩
    · obtain ⟨h', g', d', tk', os'⟩ := s'
      have e1 : g' = s.gens := mv.gens
      have e2 : d' = s.drawn := mv.drawn
      have e3 : os' = s.os := mv.os
      subst e1
      subst e2
      subst e3
      show wpAny _ _ _ _ _ _
      refine wpAny_pure ?_
      show wpAny _ _ (ret Value.none) _ _ _
      rw [vz] at hS
      exact wpAny_pure ⟨rfl, h', tk', rfl, hS, q1⟩
  · rcases r2 with e | (_ | _ | _ | u)
    · exact hr2
    · exact hr2.elim
    · exact hr2.elim
    · exact hr2.elim
    obtain ⟨rfl, h', tk, rfl, hS, hk'⟩ := hr2
    repeat (any_goals (first | assumption | wp_step))
    exact q _ _ hS hk'
end
end MP

/-! sorted(set(a tuple of texts)), len(set(a list of pairs of texts)) -/
namespace MP
open PySem PySem.Spec PyProof.Rows L2
section
variable {P : Program} {w : World} {A : Around} {R : Result → Shared → Prop} {E : Value → Shared → Prop} {s : Shared}
set_option maxHeartbeats 3200000 in
theorem set_textsT {l : Addr} {vs : Array Value} {xs : List Str} {Q : Value → Shared → Prop} (hd : A.handled = none) (hl : s.heap.IsTuple l vs) (hx : StrsAre vs.toList xs) (hz : xs.length ≤ 4000)
    (q : ∀ (h' : Heap) (tk : Nat), SetS w h' s.heap.objs.size (metS xs vs.size) (cntS xs vs.size) → (∀ b o, b < s.heap.objs.size → s.heap.get? b = some o → h'.get? b = some o) → Q (.ref s.heap.objs.size) { s with heap := h', toks := tk }) :
    wpAny (model P w) A (call (.type "set") [.ref l]) Q E s := by
  obtain ⟨c, tl, mro⟩ := PySem.F.called_set.mro
  have f1 := PySem.F.called_set.made
  have f2 := PySem.F.called_set.sub
  have f3 := PySem.F.called_set.notType
  have f4 := PySem.F.called_set.canCreate
  have f5 := PySem.F.typeCall_set_1 (.ref l)
  refine wpAny_call (codeAny_of_tree ?_)
  show wpAny _ _ (callAny (.type "set") _) _ _ _
  refine wpAny_pure ⟨Code.quiet_builtin _ (by decide +kernel), codeAny_builtin PySem.F.entry_type_call ?_⟩
  rw [Around.under_plain (weight_type_call_type "set" [.ref l] []) rfl]
  repeat (any_goals (first | assumption | wp_step))
  refine codeAny_mono (code_set_led1 (.ref l) (E := E) (Q₁ := fun u s1 => u = .ref s.heap.objs.size ∧ s1 = { s with heap := s.heap.push { cls := .type "set", dict := none, data := .set #[] 0 (.fresh 0 0 (!w.params.followText "set-order")) } }) ⟨rfl, rfl⟩) fun r s1 hr => ?_
  rcases r with e | (_ | _ | _ | u)
  · exact hr
  · exact hr.elim
  · exact hr.elim
  · exact hr.elim
  obtain ⟨rfl, rfl⟩ := hr
  have fresh := setS_fresh (h := s.heap) w
  generalize (!w.params.followText "set-order") = led at fresh ⊢
  have at0 : (s.heap.push { cls := .type "set", dict := none, data := .set #[] 0 (.fresh 0 0 led) }).get? s.heap.objs.size = some { cls := .type "set", dict := none, data := .set #[] 0 (.fresh 0 0 led) } := Heap.get?_push_size _ rfl
  have ty0 : Shared.TypeIs { s with heap := s.heap.push { cls := .type "set", dict := none, data := .set #[] 0 (.fresh 0 0 led) } } (.ref s.heap.objs.size) "set" := ⟨_, at0, rfl⟩
  have g1 := PySem.F.called_set.init.lookup
  have g2 := PySem.F.called_set.init.bind (.ref s.heap.objs.size)
  repeat (any_goals (first | assumption | wp_step))
  refine codeAny_mono (codeAny_call_builtin (R := wants (fun r s2 => r = .none ∧ ∃ h' tk, s2 = { s with heap := h', toks := tk } ∧ SetS w h' s.heap.objs.size (metS xs vs.size) (cntS xs vs.size) ∧
    (∀ b o, b < s.heap.objs.size → s.heap.get? b = some o → h'.get? b = some o)) E) PySem.F.called_set.init.plain PySem.F.entry_set_init (check_set_init_1 ty0 ?_)) fun r2 s2 hr2 => ?_
  · obtain ⟨⟨lc, ld, lda, lsl⟩, el, ec, ln, ed⟩ := hl
    simp only at ec ed
    subst ec
    subst ed
    have hlt : l < s.heap.objs.size := Heap.lt_size el
    have el2 : (s.heap.push { cls := .type "set", dict := none, data := .set #[] 0 (.fresh 0 0 led) }).get? l = some { cls := .type "tuple", dict := ld, data := .seq vs ln, slots := lsl } := Heap.get?_push_of_some _ el
    have hl1 : (s.heap.push { cls := .type "set", dict := none, data := .set #[] 0 (.fresh 0 0 led) }).IsTuple l vs := ⟨_, el2, rfl, ln, rfl⟩
    have k1 := PySem.F.sub_tuple_set
    have k2 := PySem.F.sub_tuple_frozenset
    have k3 : (Value.type "tuple" == Value.type "dict") = false := by decide
    unfold Builtin.«set.__init__» noKeywords Builtin.Frozenset.updateFrom
    generalize hPI : pyIter = PI
    wp_walk
    subst hPI
    refine wpAny_pyIter_tuple hl1 (wpAny_bind (wpAny_runValue ?_))
    have hh3 : A.in1.in1.in1.handled = none := by simp [hd]
    have n1 : l ≠ (s.heap.push { cls := .type "set", dict := none, data := .set #[] 0 (.fresh 0 0 led) }).objs.size := by
      rw [Heap.size_push]; exact Nat.ne_of_lt (Nat.lt_succ_of_lt hlt)
    have n2 : s.heap.objs.size ∉ [(s.heap.push { cls := .type "set", dict := none, data := .set #[] 0 (.fresh 0 0 led) }).objs.size, l] := by
      rw [Heap.size_push]
      simp only [List.mem_cons, List.not_mem_nil, or_false, not_or]
      exact ⟨Nat.ne_of_lt (Nat.lt_succ_self _), Nat.ne_of_gt hlt⟩
    have hsz : xs.length = vs.size := by rw [← StrsAre.len_eq hx, Array.length_toList]
    refine loopS2 ((Walks.tuple hh3 _ l n1 vs).toS) s.heap.objs.size n2 xs hsz (by rw [← hsz]; exact hz) (fun i v hv => SS.strs_at hx i v (by rw [Array.getElem?_toList]; exact hv)) (vs.size - 0) 0 _ (by omega) (Nat.zero_le _) ⟨⟨_, Heap.get?_push_size _ rfl, rfl, rfl⟩, (hl1.push _)⟩ ?_ fun s' mv hS => ?_
    · exact (fresh.keep fun o e => Heap.get?_push_of_some _ e).congr (fun _ => rfl) rfl
    · obtain ⟨h', g', d', tk', os'⟩ := s'
      have e1 : g' = s.gens := mv.gens
      have e2 : d' = s.drawn := mv.drawn
      have e3 : os' = s.os := mv.os
      subst e1
      subst e2
      subst e3
      show wpAny _ _ _ _ _ _
      refine wpAny_pure ?_
      show wpAny _ _ (ret Value.none) _ _ _
      refine wpAny_pure ⟨rfl, h', tk', rfl, hS, fun b o hb e => mv.heap b o ?_ (Heap.get?_push_of_some _ (Heap.get?_push_of_some _ e))⟩
      rw [Heap.size_push]
      simp only [List.mem_cons, List.not_mem_nil, or_false, not_or]
      exact ⟨Nat.ne_of_lt hb, Nat.ne_of_lt (Nat.lt_succ_of_lt hb)⟩
  · rcases r2 with e | (_ | _ | _ | u)
    · exact hr2
    · exact hr2.elim
    · exact hr2.elim
    · exact hr2.elim
    obtain ⟨rfl, h', tk, rfl, hS, hk⟩ := hr2
    repeat (any_goals (first | assumption | wp_step))
    exact q _ _ hS hk
end
/-- sorted(set(a tuple of texts)) -/
def gSortSetT : GC := fun _ ds => match ds with
  | [.tup l] => match strsD l with
    | some ys => if ys.length ≤ 4000 then some (.lst ((srtS ys).map D.str)) else none
    | none => none
  | _ => none
theorem pel_sortSetT {X : Cx} {a : Expr} {t : LA} {p p2 q pos : Pos} (hc : X.calm = true) (hu : X.A.units + 64 < cLine) (hg : Gl X "sorted") (hm : X.mg "sorted" = none) (hg2 : Gl X "set") (hm2 : X.mg "set" = none) (ha : PAL X [a] t)
    (na : starEach [a] X.env = (false, eval a X.env) :: starEach [] X.env := by rfl) : PEL X (.Call (.Name "sorted" p) [.Call (.Name "set" p2) [a] [] q] [] pos) (lCallB gSortSetT t) := by
  refine ⟨fun pins s σ H m ρ S I x r hp => ?_⟩
  refine Call_ (ld_blt I hg hm (u := .builtin "sorted") (by decide +kernel) ?_)
  refine PyProof.Rows.callWith_builtin1 (PyProof.Rows.args_cons ?_ rfl) rfl rfl
  refine Call_ (ld_blt I hg2 hm2 boot_set ?_)
  refine PyProof.Rows.callWith_type1 (run_seqA ha I x r hp fun ds S1 q1 vs us s1 H1 m1 I1 rv e1 x1 w1 r1 hp1 => ?_) na rfl
  obtain ⟨d, q2⟩ := lift_ok hp1
  have e0 : lCallB gSortSetT t ρ S = .ok d S1 := by unfold lCallB; rw [q1, bind_ok, q2]; rfl
  rw [e0]
  unfold gSortSetT at q2
  split at q2
  · rename_i l
    · split at q2
      · rename_i ys hs
        split at q2
        · rename_i hz
          cases q2
          obtain ⟨v, rfl, w⟩ := w1.one
          have he := strsD_eq hs
          subst he
          obtain ⟨b, ws, rfl, h1, r2⟩ : ∃ b ws, v = .ref b ∧ H1 b = some (.tup ws) ∧ VRs X.K m1 H1 ws (ys.map D.str) := by
            cases w with
            | @tup b ws _ h1 r2 => exact ⟨b, ws, rfl, h1, r2⟩
          have hv := vrs_strs r2
          subst hv
          rw [Vals.ref1 rv]
          obtain ⟨its, rv2, pl, hz2⟩ := I1.tuple (SqT.of h1)
          have hlen : its.toArray.size = ys.length := by rw [List.size_toArray, ← rv2.length, List.length_map]
          refine set_textsT (I1.ok.hd hc) (show s1.heap.IsTuple b its.toArray from pl) (by simpa using strs_of_vals rv2) hz fun h' tk hS hk => ?_
          refine PyProof.Rows.args_nil ?_
          rw [hlen] at hS
          have I2 : Inv X pins σ H1 { s1 with heap := h', toks := tk } := I1.kept fun b o e => hk b o (Heap.lt_size e) e
          refine sorted_setS hS (I2.ok.hd hc) hu fun s' p out c ns k g o hp' hg' hout pw nd hmem => ?_
          have hns : ns = srtS ys := srtS_of pw nd fun k => (hmem k).trans met_all
          subst hns
          have hn : H1 p = none := I2.hok.fresh hp'
          have hln : ((srtS ys).map V.str).length ≤ sizeLine := by
            have := len_nub ys
            rw [List.length_map]
            unfold srtS
            rw [List.length_mergeSort]
            exact Nat.le_trans (Nat.le_trans this hz) (by decide)
          have J : Inv X pins σ (upd H1 p (.lst ((srtS ys).map V.str))) { ({ s1 with heap := h', toks := tk } : Shared) with heap := s'.heap, gens := s'.gens, drawn := s'.drawn, toks := s'.toks } :=
            I2.call (ch := []) (Un.laid k hp' hn) (I2.hok.laid k hp' ⟨hln, out.toList, c, vals_strsAre hout, hg'⟩) (by rw [g]; exact I2.bare) (fun _ z => nomatch z)
          have e : s' = { ({ s1 with heap := h', toks := tk } : Shared) with heap := s'.heap, gens := s'.gens, drawn := s'.drawn, toks := s'.toks } := by
            obtain ⟨a1, a2, a3, a4, a5⟩ := s'
            have o' : a5 = s1.os := o
            subst o'
            rfl
          rw [e]
          exact (vpr_of ⟨.ref p, upd H1 p (.lst ((srtS ys).map V.str)), m1, J, rfl, Ext.fresh hn, x1.fresh hn, vr_newLst x1 hn VRs.of_strs⟩).left e1
        · cases q2
      · cases q2
  · cases q2

/-- len(set(a list of pairs of texts)) -/
def gLenSetP : GC := fun S ds => match ds with
  | [d] => match vw S d with
    | .lst xs => match psOf xs with
      | some ps => if ps.length < 64 then some (.int ((nubP ps).length : Int)) else none
      | none => none
    | _ => none
  | _ => none
theorem pel_lenSetP {X : Cx} {a : Expr} {t : LA} {p p2 q pos : Pos} (hc : X.calm = true) (hu : X.A.units + 64 < cLine) (hg : Gl X "len") (hm : X.mg "len" = none) (hg2 : Gl X "set") (hm2 : X.mg "set" = none) (ha : PAL X [a] t)
    (na : starEach [a] X.env = (false, eval a X.env) :: starEach [] X.env := by rfl) : PEL X (.Call (.Name "len" p) [.Call (.Name "set" p2) [a] [] q] [] pos) (lCallB gLenSetP t) := by
  refine ⟨fun pins s σ H m ρ S I x r hp => ?_⟩
  refine Call_ (ld_blt I hg hm boot_len ?_)
  refine PyProof.Rows.callWith_builtin1 (PyProof.Rows.args_cons ?_ rfl) rfl rfl
  refine Call_ (ld_blt I hg2 hm2 boot_set ?_)
  refine PyProof.Rows.callWith_type1 (run_seqA ha I x r hp fun ds S1 q1 vs us s1 H1 m1 I1 rv e1 x1 w1 r1 hp1 => ?_) na rfl
  obtain ⟨d, q2⟩ := lift_ok hp1
  have e0 : lCallB gLenSetP t ρ S = .ok d S1 := by unfold lCallB; rw [q1, bind_ok, q2]; rfl
  rw [e0]
  unfold gLenSetP at q2
  split at q2
  · split at q2
    · rename_i xs hxs
      split at q2
      · rename_i ps hps
        split at q2
        · rename_i hz
          cases q2
          obtain ⟨v, rfl, w⟩ := w1.one
          have he := psOf_eq hps
          subst he
          obtain ⟨b, ws, rfl, h1, r2⟩ := vw_lst x1 w hxs
          obtain ⟨ks, rfl, k2, k3⟩ := vrs_ps r2
          rw [Vals.ref1 rv]
          obtain ⟨its, rv2, pl, hz2⟩ := I1.list h1
          have hmm : (ks.map fun q => V.ref q.1) = (ks.map (·.1)).map V.ref := by rw [List.map_map]; rfl
          rw [hmm] at rv2
          have hits := refs_at rv2
          have hkl : ks.length = ps.length := by rw [← k2, List.length_map]
          have hA1 := I1.ok.hd hc
          refine set_pairs_list (ks := ks.map fun q => (q.1, kkP q.2)) hA1 (by omega) pl.isList (by rw [hits, List.map_map, List.map_map]; simp) (fun p hp => ?_) (by rw [List.length_map, hkl]; exact hz) fun h' tk ⟨L, es, ep, tb, hS, hM⟩ hk => ?_
          · obtain ⟨q, hq, rfl⟩ := List.mem_map.mp hp
            exact key_of (ks := kkP q.2) I1.hok (k3 q hq)
          refine PyProof.Rows.args_nil ?_
          have I2 : Inv X pins σ H1 { s1 with heap := h', toks := tk } := I1.kept fun b o e => hk b o e
          have hMall : ∀ y : Addr × List Key, y ∈ (ks.map fun q => (q.1, kkP q.2)).take (ks.map fun q => (q.1, kkP q.2)).length ↔ y ∈ ks.map fun q => (q.1, kkP q.2) := fun y => by rw [List.take_length]
          obtain ⟨L0, rfl, hL0⟩ := image (f := fun q : Addr × PS => (q.1, kkP q.2)) (ks := ks) L fun p hp => by
            obtain ⟨q, hq, e⟩ := List.mem_map.mp ((hMall p).mp (hM.old p hp))
            exact ⟨q, hq, e.symm⟩
          have once : (L0.map (·.2)).Nodup := by
            have z := hS.once
            rw [List.map_map] at z
            have y : (L0.map (·.2)).map kkP = L0.map ((fun x => x.2) ∘ fun q : Addr × PS => (q.1, kkP q.2)) := by rw [List.map_map]; rfl
            rw [← y] at z
            exact List.Pairwise.of_map kkP (fun _ _ hne e => hne (congrArg kkP e)) z
          have same : ∀ k, k ∈ L0.map (·.2) ↔ k ∈ ps := fun k => by
            rw [← k2]
            constructor
            · intro hk'
              obtain ⟨q, hq, rfl⟩ := List.mem_map.mp hk'
              exact List.mem_map_of_mem (hL0 q hq)
            · intro hk'
              obtain ⟨q, hq, rfl⟩ := List.mem_map.mp hk'
              have z := hM.new (q.1, kkP q.2) ((hMall _).mpr (List.mem_map_of_mem (f := fun q : Addr × PS => (q.1, kkP q.2)) hq))
              rw [List.map_map] at z
              obtain ⟨q', hq', e⟩ := List.mem_map.mp z
              exact List.mem_map.mpr ⟨q', hq', kkP_inj e⟩
          have hn : es.size = (nubP ps).length := by
            have z1 := hS.size (s := { s1 with heap := h', toks := tk })
            have z2 : (L0.map (·.2)).Perm (nubP ps) := (List.perm_ext_iff_of_nodup once (nodup_nubP ps)).mpr fun k => (same k).trans mem_nubP.symm
            have z3 := z2.length_eq
            rw [List.length_map] at z3
            rw [z1, List.length_map, z3]
          obtain ⟨o, ho, hex, hd⟩ := hS.obj
          have esz : es.size < scanBound := by
            have z1 := hS.size (s := { s1 with heap := h', toks := tk })
            have z2 := hS.few
            rw [z1]
            exact Nat.lt_trans z2 (by decide)
          exact call_len_set ho hex hd (hS.fits (s := { s1 with heap := h', toks := tk })) (by unfold scanBound at esz; omega) ((vpr_of ⟨.int ((nubP ps).length : Int), H1, m1, I2.tok _, ⟨_, by rw [hn]⟩, Ext.refl, x1, .int _⟩).left e1)
        · cases q2
      · cases q2
    · cases q2
  · cases q2
end MP

/-! what a def made and nobody reaches any more is let go; what it tells is data then -/
namespace MP
open PySem PySem.Spec PyProof.Rows L2
section
variable {K : PySem.W.Frag} {m l : List Addr} {H H' : Hp} {S S' : Sto}
theorem sr_gcw {m' : List Addr} (x : SR K m H S) (e : Ext m H m' H') (x' : SR K m' H' S') (h : ∀ (i : Nat) (o : O), S'[i]? = some o → i < S.length → S[i]? = some o ∨ belowo S.length o = true) : SR K m H' (S'.take S.length) ∧ Ext m H m H' := by
  obtain ⟨l, el⟩ := e.pre
  subst el
  have l1 := x.len
  have l2 := x'.len
  rw [List.length_append] at l2
  refine ⟨⟨x.nd, by rw [List.length_take]; omega, fun i a o h1 h2 => ?_⟩, ⟨[], by simp⟩, fun a h => .inl h, e.keep⟩
  have hi := (List.getElem?_eq_some_iff.mp h1).1
  have hi2 : i < S.length := by omega
  rw [List.getElem?_take, if_pos hi2] at h2
  have hb : belowo m.length o = true := by
    rcases h i o h2 hi2 with z | z
    · exact (x.at_ i a o h1 z).bel
    · rw [l1]; exact z
  exact (x'.at_ i a o (by rw [List.getElem?_append_left hi]; exact h1) h2).down hb
theorem qv_gcw {d : D} {v : V} (x : SR K m H S) (q : QV K m H S' d v H') (h : ∀ (i : Nat) (o : O), S'[i]? = some o → i < S.length → S[i]? = some o ∨ belowo S.length o = true) (b : below S.length (fz S' S.length d) = true) : QV K m H (S'.take S.length) (fz S' S.length d) v H' := by
  obtain ⟨m', e, x', w⟩ := q
  obtain ⟨y1, y2⟩ := sr_gcw x e x' h
  obtain ⟨l, el⟩ := e.pre
  subst el
  rw [← x.len] at b y1 ⊢
  exact ⟨m, y2, y1, w.fz_down x' b⟩
end
def Okd (S S' : Sto) : Prop := ∀ (i : Nat) (o : O), S'[i]? = some o → i < S.length → S[i]? = some o ∨ belowo S.length o = true
open Classical in
noncomputable def gcF (g : F) : F := fun ds S => match g ds S with
  | .ok d S' => if below S.length (fz S' S.length d) = true ∧ Okd S S' then .ok (fz S' S.length d) (S'.take S.length) else .ok d S'
  | r => r
theorem FnL.gc {P : Program} {w : World} {K : PySem.W.Frag} {mg : Str → Option Value} {base : Heap} {k : Nat} {f : Addr} {fd : FuncData} {ps : List Str} {g : F} (h : FnL P w K mg base k f fd ps g) : FnL P w K mg base k f fd ps (gcF g) := by
  refine FnOk.imp h fun vs H Q E ⟨hl, m, S, ds, x, r, nb, q1, q2⟩ => ⟨hl, m, S, ds, x, r, ?_⟩
  unfold gcF at nb q1 q2
  cases hg : g ds S with
  | bad => rw [hg] at nb; exact absurd rfl nb
  | exc C fs S1 =>
    rw [hg] at q1 q2
    exact ⟨fun z => (nomatch z), fun d S' e => (nomatch e), fun C' fs' S' e => by cases e; exact q2 _ _ _ rfl⟩
  | ok d S1 =>
    rw [hg] at q1 q2
    dsimp only at q1 q2
    refine ⟨fun z => (nomatch z), fun d' S' e v H' qv => ?_, fun C' fs' S' e => (nomatch e)⟩
    cases e
    by_cases hc : below S.length (fz S1 S.length d) = true ∧ Okd S S1
    · rw [if_pos hc] at q1
      exact q1 _ _ rfl v H' (qv_gcw x qv hc.2 hc.1)
    · rw [if_neg hc] at q1
      exact q1 _ _ rfl v H' qv
theorem gcF_ok {g : F} {ds : List D} {S S' S2 : Sto} {d d' : D} (h : g ds S = .ok d S') (e1 : fz S' S.length d = d') (e2 : S'.take S.length = S2) (b : below S.length d' = true) (h2 : Okd S S') : gcF g ds S = .ok d' S2 := by
  unfold gcF
  rw [h]
  dsimp only
  rw [e1, e2]
  exact if_pos ⟨b, h2⟩
/-- nothing of the old ones is otherwise -/
theorem okd_app {S l : Sto} : Okd S (S ++ l) := fun i o h hi => by
  rw [List.getElem?_append_left hi] at h
  exact .inl h
theorem okd_set {S l : Sto} {j : Nat} {o : O} (hb : belowo S.length o = true) : Okd S (S.set j o ++ l) := fun i o' h hi => by
  rw [List.getElem?_append_left (by rw [List.length_set]; exact hi)] at h
  by_cases e : j = i
  · subst e
    rw [List.getElem?_set_self hi] at h
    cases h
    exact .inr hb
  · rw [List.getElem?_set_ne e] at h
    exact .inl h
end MP

/-! the end of a walk with the guards: the lines of L2.law_call and L2.walk_ofB over MP.FnOk -/
namespace MP
open PySem PySem.Spec PyProof.Rows L2
theorem law_callG {P : Program} {w : World} {K : PySem.W.Frag} {mg mb : Str → Option Value} {CX : CXT} {k : Nat} {fa a : Addr} {fd : FuncData} {x : Str} {sp : Sp} {s₁ : Shared} {vs : List Value} {ns : List Int}
    (KX : K.In s₁.heap) (hns : s₁.heap.Ns mainGlobals mg) (hb : s₁.heap.Ns builtinsNs mb) (hbb : ∀ x : Str, x ≠ "__name__" → mb x = bootBuiltins x) (hlim : s₁.heap.NoLimit) (hg : s₁.gens = #[])
    (ha : s₁.heap.get? a = some { cls := .type "list", data := .seq vs.toArray }) (hi : IntsAre vs ns) (hl : ns.length ≤ sizeLine) (hr : MP.Room k callerA)
    (F : ∀ base : Heap, K.In base → base.Ns mainGlobals mg → MP.FnOk P w K mg base CX k fa fd [x] sp) (hbind : ∀ (s : Shared) (u : Value), BindsTo s fd ⟨[u], []⟩ [(x, u)])
    (hsp : ∀ H : Hp, Only H → SqL K H a (ns.map V.int) → sp [.ref a] H (fun v _ => v = .bl true) fun _ _ _ => False)
    (hCX : ∀ H e s', CX [] H s₁ (fun _ _ _ => False) e s' → False) :
    codeAny (model P w) callerA (.call (.ref fa) ⟨[.ref a], []⟩) (fun r s' => r = .ok (.ret (.bool true)) ∧ OldK s₁.heap s'.heap ∧ s'.os = s₁.os ∧ AllBare s'.gens) s₁ := by
  have rv := vals_ints hi
  have lenV := hi.length
  -- from an abstract heap in which nothing but the script may be tracked
  have core : ∀ H : Hp, Only H → SqL K H a (ns.map V.int) → HOk P w H s₁.heap → (∀ b, H b ≠ none → b = a) → (H a ≠ none → K.lookup a = none) →
      codeAny (model P w) callerA (.call (.ref fa) ⟨[.ref a], []⟩) (fun r s' => r = .ok (.ret (.bool true)) ∧ OldK s₁.heap s'.heap ∧ s'.os = s₁.os ∧ AllBare s'.gens) s₁ := by
    intro H hO hS hok hA hK
    have base_of : ∀ {b : Addr} {o : Obj}, s₁.heap.get? b = some o → H b = none → (hidT s₁.heap H).get? b = some o := fun e n => hidT_get e n
    have noA : ∀ {b : Addr} {o : Obj} {es : Array DictEntry} {ep : Nat}, s₁.heap.get? b = some o → o.data = .dict es ep → H b = none := fun {b o es ep} e d => by
      cases q : H b with
      | none => rfl
      | some u =>
        have e' : b = a := hA b (by rw [q]; simp)
        subst e'
        rw [ha] at e; cases e
        have d' : Data.seq vs.toArray _ = Data.dict es ep := d
        cases d'
    have nsK : ∀ {b : Addr} {m : Str → Option Value}, s₁.heap.Ns b m → (hidT s₁.heap H).Ns b m := fun {b m} ⟨o, es, ep, e, d, r⟩ => ⟨o, es, ep, base_of e (noA e d), d, r⟩
    have hKb : K.In (hidT s₁.heap H) := fun b o e => base_of (KX b o e) (by
      cases q : H b with
      | none => rfl
      | some u =>
        have e' : b = a := hA b (by rw [q]; simp)
        subst e'
        rw [hK (by rw [q]; simp)] at e; cases e)
    have hM : Mod K mg (hidT s₁.heap H) := ⟨hKb, nsK hns, ⟨mb, nsK hb, hbb⟩, let ⟨mc, h1, h2⟩ := hlim; ⟨mc, nsK h1, h2⟩⟩
    have e0 : Env0 P w K mg (hidT s₁.heap H) callerA [] s₁ H := ⟨rfl, hM, fun b o e => of_hidT e, Nat.le_of_eq (hidT_size _ _), trivial, fun b hb => absurd (show b ∈ ([] : List Addr) from hb) (by simp), hok, .of_eq hg⟩
    refine codeAny_mono ((F _ hKb (nsK hns)).run callerA [] s₁ H ⟨[.ref a], []⟩ [.ref a] [.ref a] _ _ hr e0 (hbind s₁ (.ref a)) (.cons rfl .nil) (hsp H hO hS)) fun r s' h => ?_
    cases r with
    | error e => exact (hCX H e s' h).elim
    | ok fl =>
      cases fl with
      | next => exact False.elim h
      | brk => exact False.elim h
      | cont => exact False.elim h
      | ret u =>
        obtain ⟨v, H', os, bare, un, hok', r', q⟩ := h
        have q' : v = .bl true := q
        subst q'
        obtain rfl : u = Value.bool true := r'
        refine ⟨rfl, OldK.of_keep fun b o e => ?_, os, bare⟩
        cases q : H b with
        | none => exact un.keep b o e q (by intro z; exact absurd (show b ∈ ([] : List Addr) from z) (by simp)) (by simp)
        | some u =>
          rcases hO b with z | ⟨ob, xs, z⟩
          · rw [q] at z; cases z
          · have z2 := un.frzs b ob _ z
            obtain ⟨e1, _⟩ := hok b _ z
            obtain ⟨e2, _⟩ := hok' b _ z2
            rw [e] at e1; cases e1
            exact e2
  cases hk : K.lookup a with
  | some o =>
    -- the script is one of the module's own objects
    have e := KX a o hk
    rw [ha] at e
    cases e
    refine core (fun _ => none) (fun _ => .inl rfl) (.inr ⟨_, vs.toArray, _, hk, rfl, rfl, rfl, by rw [List.size_toArray, lenV]; exact hl, by simpa using rv⟩) (fun b u z => by have z' : (none : Option HO) = some u := z; cases z') (fun b z => absurd rfl z) fun z => absurd rfl z
  | none =>
    refine core (fun b => if b = a then some (.frz { cls := .type "list", data := .seq vs.toArray } (.lst (ns.map V.int))) else none) (fun b => ?_) (.inl (.inr ⟨{ cls := .type "list", data := .seq vs.toArray }, if_pos rfl⟩)) (fun b u z => ?_) (fun b z => ?_) fun _ => hk
    · by_cases hb : b = a
      · exact .inr ⟨_, _, if_pos hb⟩
      · exact .inl (if_neg hb)
    · by_cases hb : b = a
      · have z' := (if_pos hb).symm.trans z
        cases z'
        subst hb
        exact ⟨ha, by rw [List.length_map]; exact hl, vs, _, rv, ha⟩
      · have z' := (if_neg hb).symm.trans z
        cases z'
    · by_cases hb : b = a
      · exact hb
      · exact absurd (if_neg hb) z
theorem walk_ofG {l : PySem.W.OpenLaw} {n k : Nat} {q : Program} {loose : List Str} {XP : (Str → Option Value) → Heap → Prop} {YP : World → Heap → Prop} {d : DefRec} {K : Params → PySem.W.Frag} {CX : World → CXT} {sp : World → Sp} {x : Str}
    (hn : l.most = some n) (hn2 : n ≤ sizeLine) (hdf : d.params.defaults = []) (hr : MP.Room k callerA)
    (hY : ∀ (w : World) (h : Heap), YP w h → (K w.params).In h)
    (F : ∀ (w : World) (mg : Str → Option Value) (fa : Addr) (h : Heap), (K w.params).In h → h.Ns mainGlobals mg → mg d.name = some (.ref fa) →
      ∃ fd : FuncData, (∀ (s : Shared) (u : Value), BindsTo s fd ⟨[u], []⟩ [(x, u)]) ∧
        ∀ base : Heap, (K w.params).In base → base.Ns mainGlobals mg → MP.FnOk l.prog w (K w.params) mg base (CX w) k fa fd [x] (sp w))
    (hsp : ∀ (w : World) (H : Hp) (a : Addr) (ns : List Int), ns.length ≤ n → (∀ z ∈ ns, Builtin.Int.intBits z ≤ 1048576) → Only H → SqL (K w.params) H a (ns.map V.int) → sp w [.ref a] H (fun v _ => v = .bl true) fun _ _ _ => False)
    (hCX : ∀ (w : World) (H : Hp) (s : Shared) (e : Value) (s' : Shared), CX w [] H s (fun _ _ _ => False) e s' → False) :
    PySem.W.WalkO q loose XP YP l.row.toRowW d [] (fun f vs => PySem.call f vs) := by
  refine Att.attach_callB hn hdf fun w s₀ s₁ mg mb fa o pm cd doc a vs ns G Y ho hd hcd hmg hobj hints hlen hbits hg => ?_
  have KX := hY w _ Y
  obtain ⟨fd, hb, hF⟩ := F w mg fa _ KX G.T.g hmg
  exact law_callG KX G.T.g G.T.b G.T.builtins G.T.nolimit hg hobj hints (Nat.le_trans hlen hn2) hr hF hb (fun H hO hS => hsp w H a ns hlen hbits hO hS) fun H e s' => hCX w H s₁ e s'
theorem room_caller {k : Nat} (h : L2.Room k callerA) : MP.Room k callerA := ⟨h, rfl⟩
end MP

namespace K46
open PySem PySem.Spec PyProof.Rows L2 MP
def top (i : Nat) : Stmt := PySem.Challenge.pw_lotgivers_k46_years_shown_of_any_size.main.body.getD i (.Pass ⟨0, 0, 0, 0⟩)
abbrev s_is_name : Stmt := top 8
abbrev N_is_name : List Str := ["thing", "letter"]
theorem sc_is_name : FnScope N_is_name ["thing"] (defScope s_is_name) := ⟨rfl, rfl, rfl, by decide +kernel, rfl, by decide +kernel, by decide +kernel⟩
abbrev s_is_pair : Stmt := top 9
abbrev N_is_pair : List Str := ["thing"]
theorem sc_is_pair : FnScope N_is_pair ["thing"] (defScope s_is_pair) := ⟨rfl, rfl, rfl, by decide +kernel, rfl, by decide +kernel, by decide +kernel⟩
abbrev s_does_rise : Stmt := top 10
abbrev N_does_rise : List Str := ["things", "one", "other"]
theorem sc_does_rise : FnScope N_does_rise ["things"] (defScope s_does_rise) := ⟨rfl, rfl, rfl, by decide +kernel, rfl, by decide +kernel, by decide +kernel⟩
abbrev s_are_pairs : Stmt := top 11
abbrev N_are_pairs : List Str := ["thing", "one"]
theorem sc_are_pairs : FnScope N_are_pairs ["thing"] (defScope s_are_pairs) := ⟨rfl, rfl, rfl, by decide +kernel, rfl, by decide +kernel, by decide +kernel⟩
abbrev s_are_drawn : Stmt := top 14
abbrev N_are_drawn : List Str := ["thing", "givers_here", "giver", "taker"]
theorem sc_are_drawn : FnScope N_are_drawn ["thing"] (defScope s_are_drawn) := ⟨rfl, rfl, rfl, by decide +kernel, rfl, by decide +kernel, by decide +kernel⟩
abbrev s_Drawing___init__ : Stmt := inClass (top 15) 0
abbrev N_Drawing___init__ : List Str := ["self", "pairs"]
theorem sc_Drawing___init__ : FnScope N_Drawing___init__ ["self", "pairs"] (defScope s_Drawing___init__) := ⟨rfl, rfl, rfl, by decide +kernel, rfl, by decide +kernel, by decide +kernel⟩
abbrev s_keeps : Stmt := top 16
abbrev N_keeps : List Str := ["circle", "drawing", "giver", "taker"]
theorem sc_keeps : FnScope N_keeps ["circle", "drawing"] (defScope s_keeps) := ⟨rfl, rfl, rfl, by decide +kernel, rfl, by decide +kernel, by decide +kernel⟩
abbrev s_broken : Stmt := top 17
abbrev N_broken : List Str := ["circle", "drawing", "mine", "theirs", "giver", "taker", "odd", "name", "rows", "row"]
theorem sc_broken : FnScope N_broken ["circle", "drawing"] (defScope s_broken) := ⟨rfl, rfl, rfl, by decide +kernel, rfl, by decide +kernel, by decide +kernel⟩
abbrev s_are_members : Stmt := top 19
abbrev N_are_members : List Str := ["circle", "thing", "one", "other", "members"]
theorem sc_are_members : FnScope N_are_members ["circle", "thing"] (defScope s_are_members) := ⟨rfl, rfl, rfl, by decide +kernel, rfl, by decide +kernel, by decide +kernel⟩
abbrev s_are_years : Stmt := top 20
abbrev N_are_years : List Str := ["circle", "thing", "one", "rows", "other", "met", "pairs", "pair"]
theorem sc_are_years : FnScope N_are_years ["circle", "thing"] (defScope s_are_years) := ⟨rfl, rfl, rfl, by decide +kernel, rfl, by decide +kernel, by decide +kernel⟩
abbrev s_pairs_between : Stmt := top 21
abbrev N_pairs_between : List Str := ["circle", "givers", "takers", "one", "name"]
theorem sc_pairs_between : FnScope N_pairs_between ["circle", "givers", "takers"] (defScope s_pairs_between) := ⟨rfl, rfl, rfl, by decide +kernel, rfl, by decide +kernel, by decide +kernel⟩
abbrev s_shows_years : Stmt := top 22
abbrev N_shows_years : List Str := ["circle", "drawings", "givers", "takers"]
theorem sc_shows_years : FnScope N_shows_years ["circle", "drawings", "givers", "takers"] (defScope s_shows_years) := ⟨rfl, rfl, rfl, by decide +kernel, rfl, by decide +kernel, by decide +kernel⟩
abbrev s_Circle___init__ : Stmt := inClass (top 25) 0
abbrev N_Circle___init__ : List Str := ["self", "members", "bars", "past", "gap", "pair", "year"]
theorem sc_Circle___init__ : FnScope N_Circle___init__ ["self", "members", "bars", "past", "gap"] (defScope s_Circle___init__) := ⟨rfl, rfl, rfl, by decide +kernel, rfl, by decide +kernel, by decide +kernel⟩
abbrev s_Circle_names : Stmt := inClass (top 25) 5
abbrev N_Circle_names : List Str := ["self"]
theorem sc_Circle_names : FnScope N_Circle_names ["self"] (defScope s_Circle_names) := ⟨rfl, rfl, rfl, by decide +kernel, rfl, by decide +kernel, by decide +kernel⟩
abbrev s_Circle_house_of : Stmt := inClass (top 25) 6
abbrev N_Circle_house_of : List Str := ["self", "name"]
theorem sc_Circle_house_of : FnScope N_Circle_house_of ["self", "name"] (defScope s_Circle_house_of) := ⟨rfl, rfl, rfl, by decide +kernel, rfl, by decide +kernel, by decide +kernel⟩
abbrev s_Circle_reason : Stmt := inClass (top 25) 7
abbrev N_Circle_reason : List Str := ["self", "giver", "taker", "mine", "yours"]
theorem sc_Circle_reason : FnScope N_Circle_reason ["self", "giver", "taker"] (defScope s_Circle_reason) := ⟨rfl, rfl, rfl, by decide +kernel, rfl, by decide +kernel, by decide +kernel⟩
abbrev s_Circle_takers : Stmt := inClass (top 25) 8
abbrev N_Circle_takers : List Str := ["self", "giver", "name"]
theorem sc_Circle_takers : FnScope N_Circle_takers ["self", "giver"] (defScope s_Circle_takers) := ⟨rfl, rfl, rfl, by decide +kernel, rfl, by decide +kernel, by decide +kernel⟩
abbrev s__law_pot : Stmt := top 27
abbrev N__law_pot : List Str := ["_law_script", "_law_k", "_law_cell", "_law_great"]
theorem sc__law_pot : FnScope N__law_pot ["_law_script", "_law_k"] (defScope s__law_pot) := ⟨rfl, rfl, rfl, by decide +kernel, rfl, by decide +kernel, by decide +kernel⟩
abbrev s__law_take : Stmt := top 28
abbrev N__law_take : List Str := ["_law_pot_here", "_law_upto", "_law_digit"]
theorem sc__law_take : FnScope N__law_take ["_law_pot_here", "_law_upto"] (defScope s__law_take) := ⟨rfl, rfl, rfl, by decide +kernel, rfl, by decide +kernel, by decide +kernel⟩
abbrev s__law_names : Stmt := top 29
abbrev N__law_names : List Str := ["_law_pot_here", "_law_upto", "_law_letters", "_law_stem", "_law_k", "_law_at", "_law_first", "_law_step"]
theorem sc__law_names : FnScope N__law_names ["_law_pot_here", "_law_upto"] (defScope s__law_names) := ⟨rfl, rfl, rfl, by decide +kernel, rfl, by decide +kernel, by decide +kernel⟩
abbrev s__law_turned : Stmt := top 30
abbrev N__law_turned : List Str := ["_law_pot_here", "_law_some", "_law_rest", "_law_found"]
theorem sc__law_turned : FnScope N__law_turned ["_law_pot_here", "_law_some"] (defScope s__law_turned) := ⟨rfl, rfl, rfl, by decide +kernel, rfl, by decide +kernel, by decide +kernel⟩
abbrev s__law_due : Stmt := top 31
abbrev N__law_due : List Str := ["_law_may", "_law_drawings", "_law_givers", "_law_takers", "_law_rows", "_law_every", "_law_one", "_law_pairs", "_law_giver", "_law_taker", "_law_some", "_law_between"]
theorem sc__law_due : FnScope N__law_due ["_law_may", "_law_drawings", "_law_givers", "_law_takers"] (defScope s__law_due) := ⟨rfl, rfl, rfl, by decide +kernel, rfl, by decide +kernel, by decide +kernel⟩
abbrev s_law : Stmt := top 32
abbrev N_law : List Str := ["_law_script", "_law_k", "_law_pot_here", "_law_names_here", "_law_order", "_law_dense", "_law_may", "_law_one", "_law_other", "_law_some", "_law_name", "_law_barred", "_law_lot_of", "_law_first", "_law_more", "_law_both", "_law_asks", "_law_givers", "_law_takers", "_law_found", "_law_nobody"]
theorem sc_law : FnScope N_law ["_law_script"] (defScope s_law) := ⟨rfl, rfl, rfl, by decide +kernel, rfl, by decide +kernel, by decide +kernel⟩
structure T46 (K : PySem.W.Frag) (mg : Str → Option Value) where
  C_Drawing : Addr
  C_Circle : Addr
  tk_LETTERS : Tok
  tk_MOST_LETTERS : Tok
  f_is_name : Addr
  fd_is_name : FuncData
  F_is_name : Fun K "is_name" "is_name" s_is_name f_is_name fd_is_name
  b_is_name : Binds K fd_is_name ["thing"] []
  mg_is_name : mg "is_name" = some (.ref f_is_name)
  f_is_pair : Addr
  fd_is_pair : FuncData
  F_is_pair : Fun K "is_pair" "is_pair" s_is_pair f_is_pair fd_is_pair
  b_is_pair : Binds K fd_is_pair ["thing"] []
  mg_is_pair : mg "is_pair" = some (.ref f_is_pair)
  f_does_rise : Addr
  fd_does_rise : FuncData
  F_does_rise : Fun K "does_rise" "does_rise" s_does_rise f_does_rise fd_does_rise
  b_does_rise : Binds K fd_does_rise ["things"] []
  mg_does_rise : mg "does_rise" = some (.ref f_does_rise)
  f_are_pairs : Addr
  fd_are_pairs : FuncData
  F_are_pairs : Fun K "are_pairs" "are_pairs" s_are_pairs f_are_pairs fd_are_pairs
  b_are_pairs : Binds K fd_are_pairs ["thing"] []
  mg_are_pairs : mg "are_pairs" = some (.ref f_are_pairs)
  f_are_drawn : Addr
  fd_are_drawn : FuncData
  F_are_drawn : Fun K "are_drawn" "are_drawn" s_are_drawn f_are_drawn fd_are_drawn
  b_are_drawn : Binds K fd_are_drawn ["thing"] []
  mg_are_drawn : mg "are_drawn" = some (.ref f_are_drawn)
  f_Drawing___init__ : Addr
  fd_Drawing___init__ : FuncData
  F_Drawing___init__ : Fun K "__init__" "Drawing.__init__" s_Drawing___init__ f_Drawing___init__ fd_Drawing___init__
  b_Drawing___init__ : Binds K fd_Drawing___init__ ["self", "pairs"] []
  a_Drawing___init__ : PySem.W.findIn K (.ref C_Drawing) "__init__" = some (some (.ref f_Drawing___init__))
  i_Drawing___init__ : PySem.W.isFn K (.ref f_Drawing___init__) = true
  f_keeps : Addr
  fd_keeps : FuncData
  F_keeps : Fun K "keeps" "keeps" s_keeps f_keeps fd_keeps
  b_keeps : Binds K fd_keeps ["circle", "drawing"] []
  mg_keeps : mg "keeps" = some (.ref f_keeps)
  f_broken : Addr
  fd_broken : FuncData
  F_broken : Fun K "broken" "broken" s_broken f_broken fd_broken
  b_broken : Binds K fd_broken ["circle", "drawing"] []
  mg_broken : mg "broken" = some (.ref f_broken)
  f_are_members : Addr
  fd_are_members : FuncData
  F_are_members : Fun K "are_members" "are_members" s_are_members f_are_members fd_are_members
  b_are_members : Binds K fd_are_members ["circle", "thing"] []
  mg_are_members : mg "are_members" = some (.ref f_are_members)
  f_are_years : Addr
  fd_are_years : FuncData
  F_are_years : Fun K "are_years" "are_years" s_are_years f_are_years fd_are_years
  b_are_years : Binds K fd_are_years ["circle", "thing"] []
  mg_are_years : mg "are_years" = some (.ref f_are_years)
  f_pairs_between : Addr
  fd_pairs_between : FuncData
  F_pairs_between : Fun K "pairs_between" "pairs_between" s_pairs_between f_pairs_between fd_pairs_between
  b_pairs_between : Binds K fd_pairs_between ["circle", "givers", "takers"] []
  mg_pairs_between : mg "pairs_between" = some (.ref f_pairs_between)
  f_shows_years : Addr
  fd_shows_years : FuncData
  F_shows_years : Fun K "shows_years" "shows_years" s_shows_years f_shows_years fd_shows_years
  b_shows_years : Binds K fd_shows_years ["circle", "drawings", "givers", "takers"] []
  mg_shows_years : mg "shows_years" = some (.ref f_shows_years)
  f_Circle___init__ : Addr
  fd_Circle___init__ : FuncData
  F_Circle___init__ : FunD K "__init__" "Circle.__init__" (defArgs s_Circle___init__) (defBody s_Circle___init__) (defScope s_Circle___init__) [.non, .non, .int 1] [] f_Circle___init__ fd_Circle___init__
  a_Circle___init__ : PySem.W.findIn K (.ref C_Circle) "__init__" = some (some (.ref f_Circle___init__))
  i_Circle___init__ : PySem.W.isFn K (.ref f_Circle___init__) = true
  f_Circle_names : Addr
  fd_Circle_names : FuncData
  F_Circle_names : Fun K "names" "Circle.names" s_Circle_names f_Circle_names fd_Circle_names
  b_Circle_names : Binds K fd_Circle_names ["self"] []
  a_Circle_names : PySem.W.findIn K (.ref C_Circle) "names" = some (some (.ref f_Circle_names))
  i_Circle_names : PySem.W.isFn K (.ref f_Circle_names) = true
  mt_Circle_names : Meth K C_Circle "names" f_Circle_names
  f_Circle_house_of : Addr
  fd_Circle_house_of : FuncData
  F_Circle_house_of : Fun K "house_of" "Circle.house_of" s_Circle_house_of f_Circle_house_of fd_Circle_house_of
  b_Circle_house_of : Binds K fd_Circle_house_of ["self", "name"] []
  a_Circle_house_of : PySem.W.findIn K (.ref C_Circle) "house_of" = some (some (.ref f_Circle_house_of))
  i_Circle_house_of : PySem.W.isFn K (.ref f_Circle_house_of) = true
  mt_Circle_house_of : Meth K C_Circle "house_of" f_Circle_house_of
  f_Circle_reason : Addr
  fd_Circle_reason : FuncData
  F_Circle_reason : Fun K "reason" "Circle.reason" s_Circle_reason f_Circle_reason fd_Circle_reason
  b_Circle_reason : Binds K fd_Circle_reason ["self", "giver", "taker"] []
  a_Circle_reason : PySem.W.findIn K (.ref C_Circle) "reason" = some (some (.ref f_Circle_reason))
  i_Circle_reason : PySem.W.isFn K (.ref f_Circle_reason) = true
  mt_Circle_reason : Meth K C_Circle "reason" f_Circle_reason
  f_Circle_takers : Addr
  fd_Circle_takers : FuncData
  F_Circle_takers : Fun K "takers" "Circle.takers" s_Circle_takers f_Circle_takers fd_Circle_takers
  b_Circle_takers : Binds K fd_Circle_takers ["self", "giver"] []
  a_Circle_takers : PySem.W.findIn K (.ref C_Circle) "takers" = some (some (.ref f_Circle_takers))
  i_Circle_takers : PySem.W.isFn K (.ref f_Circle_takers) = true
  mt_Circle_takers : Meth K C_Circle "takers" f_Circle_takers
  f__law_pot : Addr
  fd__law_pot : FuncData
  F__law_pot : Fun K "_law_pot" "_law_pot" s__law_pot f__law_pot fd__law_pot
  b__law_pot : Binds K fd__law_pot ["_law_script", "_law_k"] []
  mg__law_pot : mg "_law_pot" = some (.ref f__law_pot)
  f__law_take : Addr
  fd__law_take : FuncData
  F__law_take : Fun K "_law_take" "_law_take" s__law_take f__law_take fd__law_take
  b__law_take : Binds K fd__law_take ["_law_pot_here", "_law_upto"] []
  mg__law_take : mg "_law_take" = some (.ref f__law_take)
  f__law_names : Addr
  fd__law_names : FuncData
  F__law_names : Fun K "_law_names" "_law_names" s__law_names f__law_names fd__law_names
  b__law_names : Binds K fd__law_names ["_law_pot_here", "_law_upto"] []
  mg__law_names : mg "_law_names" = some (.ref f__law_names)
  f__law_turned : Addr
  fd__law_turned : FuncData
  F__law_turned : Fun K "_law_turned" "_law_turned" s__law_turned f__law_turned fd__law_turned
  b__law_turned : Binds K fd__law_turned ["_law_pot_here", "_law_some"] []
  mg__law_turned : mg "_law_turned" = some (.ref f__law_turned)
  f__law_due : Addr
  fd__law_due : FuncData
  F__law_due : Fun K "_law_due" "_law_due" s__law_due f__law_due fd__law_due
  b__law_due : Binds K fd__law_due ["_law_may", "_law_drawings", "_law_givers", "_law_takers"] []
  mg__law_due : mg "_law_due" = some (.ref f__law_due)
  f_law : Addr
  fd_law : FuncData
  F_law : Fun K "law" "law" s_law f_law fd_law
  b_law : Binds K fd_law ["_law_script"] []
  mg_law : mg "law" = some (.ref f_law)
  mg_Drawing : mg "Drawing" = some (.ref C_Drawing)
  cl_Drawing : Cls K C_Drawing
  mk_Drawing : Mk K C_Drawing f_Drawing___init__
  ok_Drawing : OwnOk K C_Drawing
  na_Drawing_pairs : NoAttr K C_Drawing "pairs"
  mg_Circle : mg "Circle" = some (.ref C_Circle)
  cl_Circle : Cls K C_Circle
  mk_Circle : Mk K C_Circle f_Circle___init__
  ok_Circle : OwnOk K C_Circle
  na_Circle_members : NoAttr K C_Circle "members"
  na_Circle_bars : NoAttr K C_Circle "bars"
  na_Circle_past : NoAttr K C_Circle "past"
  na_Circle_gap : NoAttr K C_Circle "gap"
  na_Circle_houses : NoAttr K C_Circle "houses"
  na_Circle_names_told : NoAttr K C_Circle "names_told"
  na_Circle_barred : NoAttr K C_Circle "barred"
  na_Circle_gone_by : NoAttr K C_Circle "gone_by"
  mg_LETTERS : mg "LETTERS" = some (.str "abcdefghijklmnopqrstuvwxyz" tk_LETTERS)
  mg_MOST_LETTERS : mg "MOST_LETTERS" = some (.int 12 tk_MOST_LETTERS)
  n_len : mg "len" = none
  n_abs : mg "abs" = none
  n_all : mg "all" = none
  n_any : mg "any" = none
  n_range : mg "range" = none
  n_isinstance : mg "isinstance" = none
  n_list : mg "list" = none
  n_tuple : mg "tuple" = none
  n_str : mg "str" = none
  n_sorted : mg "sorted" = none
  n_zip : mg "zip" = none
  n_set : mg "set" = none
  n_max : mg "max" = none
  n_min : mg "min" = none
  n_dict : mg "dict" = none
  n_sum : mg "sum" = none
  n_int : mg "int" = none
  n_bool : mg "bool" = none
  nd : PySem.W.nsIn K cStatics "sys.int_max_str_digits" = some none
def T46_mk {K : PySem.W.Frag} {h : Heap} {mg : Str → Option Value} (X : K.In h) (G : h.Ns mainGlobals mg)
    {C_Circle : Addr}
    {C_Drawing : Addr}
    {f_is_name : Addr} {od_is_name an_is_name : Option Addr} {sl_is_name : Array (Option Value)} {oc_is_name kV_is_name dc_is_name pm_is_name cd_is_name ct_is_name : Value}
    {f_is_pair : Addr} {od_is_pair an_is_pair : Option Addr} {sl_is_pair : Array (Option Value)} {oc_is_pair kV_is_pair dc_is_pair pm_is_pair cd_is_pair ct_is_pair : Value}
    {f_does_rise : Addr} {od_does_rise an_does_rise : Option Addr} {sl_does_rise : Array (Option Value)} {oc_does_rise kV_does_rise dc_does_rise pm_does_rise cd_does_rise ct_does_rise : Value}
    {f_are_pairs : Addr} {od_are_pairs an_are_pairs : Option Addr} {sl_are_pairs : Array (Option Value)} {oc_are_pairs kV_are_pairs dc_are_pairs pm_are_pairs cd_are_pairs ct_are_pairs : Value}
    {f_are_drawn : Addr} {od_are_drawn an_are_drawn : Option Addr} {sl_are_drawn : Array (Option Value)} {oc_are_drawn kV_are_drawn dc_are_drawn pm_are_drawn cd_are_drawn ct_are_drawn : Value}
    {f_Drawing___init__ : Addr} {od_Drawing___init__ an_Drawing___init__ : Option Addr} {sl_Drawing___init__ : Array (Option Value)} {oc_Drawing___init__ kV_Drawing___init__ dc_Drawing___init__ pm_Drawing___init__ cd_Drawing___init__ ct_Drawing___init__ : Value}
    {f_keeps : Addr} {od_keeps an_keeps : Option Addr} {sl_keeps : Array (Option Value)} {oc_keeps kV_keeps dc_keeps pm_keeps cd_keeps ct_keeps : Value}
    {f_broken : Addr} {od_broken an_broken : Option Addr} {sl_broken : Array (Option Value)} {oc_broken kV_broken dc_broken pm_broken cd_broken ct_broken : Value}
    {f_are_members : Addr} {od_are_members an_are_members : Option Addr} {sl_are_members : Array (Option Value)} {oc_are_members kV_are_members dc_are_members pm_are_members cd_are_members ct_are_members : Value}
    {f_are_years : Addr} {od_are_years an_are_years : Option Addr} {sl_are_years : Array (Option Value)} {oc_are_years kV_are_years dc_are_years pm_are_years cd_are_years ct_are_years : Value}
    {f_pairs_between : Addr} {od_pairs_between an_pairs_between : Option Addr} {sl_pairs_between : Array (Option Value)} {oc_pairs_between kV_pairs_between dc_pairs_between pm_pairs_between cd_pairs_between ct_pairs_between : Value}
    {f_shows_years : Addr} {od_shows_years an_shows_years : Option Addr} {sl_shows_years : Array (Option Value)} {oc_shows_years kV_shows_years dc_shows_years pm_shows_years cd_shows_years ct_shows_years : Value}
    {f_Circle___init__ : Addr} {od_Circle___init__ an_Circle___init__ : Option Addr} {sl_Circle___init__ : Array (Option Value)} {oc_Circle___init__ kV_Circle___init__ dc_Circle___init__ pm_Circle___init__ cd_Circle___init__ ct_Circle___init__ : Value}
    {dV_Circle___init__ : Value}
    {f_Circle_names : Addr} {od_Circle_names an_Circle_names : Option Addr} {sl_Circle_names : Array (Option Value)} {oc_Circle_names kV_Circle_names dc_Circle_names pm_Circle_names cd_Circle_names ct_Circle_names : Value}
    {f_Circle_house_of : Addr} {od_Circle_house_of an_Circle_house_of : Option Addr} {sl_Circle_house_of : Array (Option Value)} {oc_Circle_house_of kV_Circle_house_of dc_Circle_house_of pm_Circle_house_of cd_Circle_house_of ct_Circle_house_of : Value}
    {f_Circle_reason : Addr} {od_Circle_reason an_Circle_reason : Option Addr} {sl_Circle_reason : Array (Option Value)} {oc_Circle_reason kV_Circle_reason dc_Circle_reason pm_Circle_reason cd_Circle_reason ct_Circle_reason : Value}
    {f_Circle_takers : Addr} {od_Circle_takers an_Circle_takers : Option Addr} {sl_Circle_takers : Array (Option Value)} {oc_Circle_takers kV_Circle_takers dc_Circle_takers pm_Circle_takers cd_Circle_takers ct_Circle_takers : Value}
    {f__law_pot : Addr} {od__law_pot an__law_pot : Option Addr} {sl__law_pot : Array (Option Value)} {oc__law_pot kV__law_pot dc__law_pot pm__law_pot cd__law_pot ct__law_pot : Value}
    {f__law_take : Addr} {od__law_take an__law_take : Option Addr} {sl__law_take : Array (Option Value)} {oc__law_take kV__law_take dc__law_take pm__law_take cd__law_take ct__law_take : Value}
    {f__law_names : Addr} {od__law_names an__law_names : Option Addr} {sl__law_names : Array (Option Value)} {oc__law_names kV__law_names dc__law_names pm__law_names cd__law_names ct__law_names : Value}
    {f__law_turned : Addr} {od__law_turned an__law_turned : Option Addr} {sl__law_turned : Array (Option Value)} {oc__law_turned kV__law_turned dc__law_turned pm__law_turned cd__law_turned ct__law_turned : Value}
    {f__law_due : Addr} {od__law_due an__law_due : Option Addr} {sl__law_due : Array (Option Value)} {oc__law_due kV__law_due dc__law_due pm__law_due cd__law_due ct__law_due : Value}
    {f_law : Addr} {od_law an_law : Option Addr} {sl_law : Array (Option Value)} {oc_law kV_law dc_law pm_law cd_law ct_law : Value}
    {tk_LETTERS : Tok}
    {tk_MOST_LETTERS : Tok}
    (aC_Drawing : PySem.W.nsIn K mainGlobals "Drawing" = some (some (.ref C_Drawing)))
    (aC_Circle : PySem.W.nsIn K mainGlobals "Circle" = some (some (.ref C_Circle)))
    (a_is_name : PySem.W.nsIn K mainGlobals "is_name" = some (some (.ref f_is_name)))
    (l_is_name : K.lookup f_is_name = some ⟨oc_is_name, od_is_name, .func (PySem.W.fnOf "is_name" "is_name" (defArgs s_is_name) (defBody s_is_name) (defScope s_is_name) .none kV_is_name dc_is_name pm_is_name an_is_name cd_is_name ct_is_name), sl_is_name⟩)
    (c_is_name : PySem.W.codeIn K cd_is_name "is_name" = true)
    (k_is_name : PySem.W.keepIn K (.ref f_is_name) = true)
    (a_is_pair : PySem.W.nsIn K mainGlobals "is_pair" = some (some (.ref f_is_pair)))
    (l_is_pair : K.lookup f_is_pair = some ⟨oc_is_pair, od_is_pair, .func (PySem.W.fnOf "is_pair" "is_pair" (defArgs s_is_pair) (defBody s_is_pair) (defScope s_is_pair) .none kV_is_pair dc_is_pair pm_is_pair an_is_pair cd_is_pair ct_is_pair), sl_is_pair⟩)
    (c_is_pair : PySem.W.codeIn K cd_is_pair "is_pair" = true)
    (k_is_pair : PySem.W.keepIn K (.ref f_is_pair) = true)
    (a_does_rise : PySem.W.nsIn K mainGlobals "does_rise" = some (some (.ref f_does_rise)))
    (l_does_rise : K.lookup f_does_rise = some ⟨oc_does_rise, od_does_rise, .func (PySem.W.fnOf "does_rise" "does_rise" (defArgs s_does_rise) (defBody s_does_rise) (defScope s_does_rise) .none kV_does_rise dc_does_rise pm_does_rise an_does_rise cd_does_rise ct_does_rise), sl_does_rise⟩)
    (c_does_rise : PySem.W.codeIn K cd_does_rise "does_rise" = true)
    (k_does_rise : PySem.W.keepIn K (.ref f_does_rise) = true)
    (a_are_pairs : PySem.W.nsIn K mainGlobals "are_pairs" = some (some (.ref f_are_pairs)))
    (l_are_pairs : K.lookup f_are_pairs = some ⟨oc_are_pairs, od_are_pairs, .func (PySem.W.fnOf "are_pairs" "are_pairs" (defArgs s_are_pairs) (defBody s_are_pairs) (defScope s_are_pairs) .none kV_are_pairs dc_are_pairs pm_are_pairs an_are_pairs cd_are_pairs ct_are_pairs), sl_are_pairs⟩)
    (c_are_pairs : PySem.W.codeIn K cd_are_pairs "are_pairs" = true)
    (k_are_pairs : PySem.W.keepIn K (.ref f_are_pairs) = true)
    (a_are_drawn : PySem.W.nsIn K mainGlobals "are_drawn" = some (some (.ref f_are_drawn)))
    (l_are_drawn : K.lookup f_are_drawn = some ⟨oc_are_drawn, od_are_drawn, .func (PySem.W.fnOf "are_drawn" "are_drawn" (defArgs s_are_drawn) (defBody s_are_drawn) (defScope s_are_drawn) .none kV_are_drawn dc_are_drawn pm_are_drawn an_are_drawn cd_are_drawn ct_are_drawn), sl_are_drawn⟩)
    (c_are_drawn : PySem.W.codeIn K cd_are_drawn "are_drawn" = true)
    (k_are_drawn : PySem.W.keepIn K (.ref f_are_drawn) = true)
    (a_Drawing___init__ : PySem.W.findIn K (.ref C_Drawing) "__init__" = some (some (.ref f_Drawing___init__)))
    (i_Drawing___init__ : PySem.W.isFn K (.ref f_Drawing___init__) = true)
    (l_Drawing___init__ : K.lookup f_Drawing___init__ = some ⟨oc_Drawing___init__, od_Drawing___init__, .func (PySem.W.fnOf "__init__" "Drawing.__init__" (defArgs s_Drawing___init__) (defBody s_Drawing___init__) (defScope s_Drawing___init__) .none kV_Drawing___init__ dc_Drawing___init__ pm_Drawing___init__ an_Drawing___init__ cd_Drawing___init__ ct_Drawing___init__), sl_Drawing___init__⟩)
    (c_Drawing___init__ : PySem.W.codeIn K cd_Drawing___init__ "Drawing.__init__" = true)
    (k_Drawing___init__ : PySem.W.keepIn K (.ref f_Drawing___init__) = true)
    (a_keeps : PySem.W.nsIn K mainGlobals "keeps" = some (some (.ref f_keeps)))
    (l_keeps : K.lookup f_keeps = some ⟨oc_keeps, od_keeps, .func (PySem.W.fnOf "keeps" "keeps" (defArgs s_keeps) (defBody s_keeps) (defScope s_keeps) .none kV_keeps dc_keeps pm_keeps an_keeps cd_keeps ct_keeps), sl_keeps⟩)
    (c_keeps : PySem.W.codeIn K cd_keeps "keeps" = true)
    (k_keeps : PySem.W.keepIn K (.ref f_keeps) = true)
    (a_broken : PySem.W.nsIn K mainGlobals "broken" = some (some (.ref f_broken)))
    (l_broken : K.lookup f_broken = some ⟨oc_broken, od_broken, .func (PySem.W.fnOf "broken" "broken" (defArgs s_broken) (defBody s_broken) (defScope s_broken) .none kV_broken dc_broken pm_broken an_broken cd_broken ct_broken), sl_broken⟩)
    (c_broken : PySem.W.codeIn K cd_broken "broken" = true)
    (k_broken : PySem.W.keepIn K (.ref f_broken) = true)
    (a_are_members : PySem.W.nsIn K mainGlobals "are_members" = some (some (.ref f_are_members)))
    (l_are_members : K.lookup f_are_members = some ⟨oc_are_members, od_are_members, .func (PySem.W.fnOf "are_members" "are_members" (defArgs s_are_members) (defBody s_are_members) (defScope s_are_members) .none kV_are_members dc_are_members pm_are_members an_are_members cd_are_members ct_are_members), sl_are_members⟩)
    (c_are_members : PySem.W.codeIn K cd_are_members "are_members" = true)
    (k_are_members : PySem.W.keepIn K (.ref f_are_members) = true)
    (a_are_years : PySem.W.nsIn K mainGlobals "are_years" = some (some (.ref f_are_years)))
    (l_are_years : K.lookup f_are_years = some ⟨oc_are_years, od_are_years, .func (PySem.W.fnOf "are_years" "are_years" (defArgs s_are_years) (defBody s_are_years) (defScope s_are_years) .none kV_are_years dc_are_years pm_are_years an_are_years cd_are_years ct_are_years), sl_are_years⟩)
    (c_are_years : PySem.W.codeIn K cd_are_years "are_years" = true)
    (k_are_years : PySem.W.keepIn K (.ref f_are_years) = true)
    (a_pairs_between : PySem.W.nsIn K mainGlobals "pairs_between" = some (some (.ref f_pairs_between)))
    (l_pairs_between : K.lookup f_pairs_between = some ⟨oc_pairs_between, od_pairs_between, .func (PySem.W.fnOf "pairs_between" "pairs_between" (defArgs s_pairs_between) (defBody s_pairs_between) (defScope s_pairs_between) .none kV_pairs_between dc_pairs_between pm_pairs_between an_pairs_between cd_pairs_between ct_pairs_between), sl_pairs_between⟩)
    (c_pairs_between : PySem.W.codeIn K cd_pairs_between "pairs_between" = true)
    (k_pairs_between : PySem.W.keepIn K (.ref f_pairs_between) = true)
    (a_shows_years : PySem.W.nsIn K mainGlobals "shows_years" = some (some (.ref f_shows_years)))
    (l_shows_years : K.lookup f_shows_years = some ⟨oc_shows_years, od_shows_years, .func (PySem.W.fnOf "shows_years" "shows_years" (defArgs s_shows_years) (defBody s_shows_years) (defScope s_shows_years) .none kV_shows_years dc_shows_years pm_shows_years an_shows_years cd_shows_years ct_shows_years), sl_shows_years⟩)
    (c_shows_years : PySem.W.codeIn K cd_shows_years "shows_years" = true)
    (k_shows_years : PySem.W.keepIn K (.ref f_shows_years) = true)
    (a_Circle___init__ : PySem.W.findIn K (.ref C_Circle) "__init__" = some (some (.ref f_Circle___init__)))
    (i_Circle___init__ : PySem.W.isFn K (.ref f_Circle___init__) = true)
    (l_Circle___init__ : K.lookup f_Circle___init__ = some ⟨oc_Circle___init__, od_Circle___init__, .func (PySem.W.fnOf "__init__" "Circle.__init__" (defArgs s_Circle___init__) (defBody s_Circle___init__) (defScope s_Circle___init__) dV_Circle___init__ kV_Circle___init__ dc_Circle___init__ pm_Circle___init__ an_Circle___init__ cd_Circle___init__ ct_Circle___init__), sl_Circle___init__⟩)
    (c_Circle___init__ : PySem.W.codeIn K cd_Circle___init__ "Circle.__init__" = true)
    (k_Circle___init__ : PySem.W.keepIn K (.ref f_Circle___init__) = true)
    (dv_Circle___init__ : DflV K dV_Circle___init__ [.non, .non, .int 1])
    (a_Circle_names : PySem.W.findIn K (.ref C_Circle) "names" = some (some (.ref f_Circle_names)))
    (i_Circle_names : PySem.W.isFn K (.ref f_Circle_names) = true)
    (l_Circle_names : K.lookup f_Circle_names = some ⟨oc_Circle_names, od_Circle_names, .func (PySem.W.fnOf "names" "Circle.names" (defArgs s_Circle_names) (defBody s_Circle_names) (defScope s_Circle_names) .none kV_Circle_names dc_Circle_names pm_Circle_names an_Circle_names cd_Circle_names ct_Circle_names), sl_Circle_names⟩)
    (c_Circle_names : PySem.W.codeIn K cd_Circle_names "Circle.names" = true)
    (k_Circle_names : PySem.W.keepIn K (.ref f_Circle_names) = true)
    (a_Circle_house_of : PySem.W.findIn K (.ref C_Circle) "house_of" = some (some (.ref f_Circle_house_of)))
    (i_Circle_house_of : PySem.W.isFn K (.ref f_Circle_house_of) = true)
    (l_Circle_house_of : K.lookup f_Circle_house_of = some ⟨oc_Circle_house_of, od_Circle_house_of, .func (PySem.W.fnOf "house_of" "Circle.house_of" (defArgs s_Circle_house_of) (defBody s_Circle_house_of) (defScope s_Circle_house_of) .none kV_Circle_house_of dc_Circle_house_of pm_Circle_house_of an_Circle_house_of cd_Circle_house_of ct_Circle_house_of), sl_Circle_house_of⟩)
    (c_Circle_house_of : PySem.W.codeIn K cd_Circle_house_of "Circle.house_of" = true)
    (k_Circle_house_of : PySem.W.keepIn K (.ref f_Circle_house_of) = true)
    (a_Circle_reason : PySem.W.findIn K (.ref C_Circle) "reason" = some (some (.ref f_Circle_reason)))
    (i_Circle_reason : PySem.W.isFn K (.ref f_Circle_reason) = true)
    (l_Circle_reason : K.lookup f_Circle_reason = some ⟨oc_Circle_reason, od_Circle_reason, .func (PySem.W.fnOf "reason" "Circle.reason" (defArgs s_Circle_reason) (defBody s_Circle_reason) (defScope s_Circle_reason) .none kV_Circle_reason dc_Circle_reason pm_Circle_reason an_Circle_reason cd_Circle_reason ct_Circle_reason), sl_Circle_reason⟩)
    (c_Circle_reason : PySem.W.codeIn K cd_Circle_reason "Circle.reason" = true)
    (k_Circle_reason : PySem.W.keepIn K (.ref f_Circle_reason) = true)
    (a_Circle_takers : PySem.W.findIn K (.ref C_Circle) "takers" = some (some (.ref f_Circle_takers)))
    (i_Circle_takers : PySem.W.isFn K (.ref f_Circle_takers) = true)
    (l_Circle_takers : K.lookup f_Circle_takers = some ⟨oc_Circle_takers, od_Circle_takers, .func (PySem.W.fnOf "takers" "Circle.takers" (defArgs s_Circle_takers) (defBody s_Circle_takers) (defScope s_Circle_takers) .none kV_Circle_takers dc_Circle_takers pm_Circle_takers an_Circle_takers cd_Circle_takers ct_Circle_takers), sl_Circle_takers⟩)
    (c_Circle_takers : PySem.W.codeIn K cd_Circle_takers "Circle.takers" = true)
    (k_Circle_takers : PySem.W.keepIn K (.ref f_Circle_takers) = true)
    (a__law_pot : PySem.W.nsIn K mainGlobals "_law_pot" = some (some (.ref f__law_pot)))
    (l__law_pot : K.lookup f__law_pot = some ⟨oc__law_pot, od__law_pot, .func (PySem.W.fnOf "_law_pot" "_law_pot" (defArgs s__law_pot) (defBody s__law_pot) (defScope s__law_pot) .none kV__law_pot dc__law_pot pm__law_pot an__law_pot cd__law_pot ct__law_pot), sl__law_pot⟩)
    (c__law_pot : PySem.W.codeIn K cd__law_pot "_law_pot" = true)
    (k__law_pot : PySem.W.keepIn K (.ref f__law_pot) = true)
    (a__law_take : PySem.W.nsIn K mainGlobals "_law_take" = some (some (.ref f__law_take)))
    (l__law_take : K.lookup f__law_take = some ⟨oc__law_take, od__law_take, .func (PySem.W.fnOf "_law_take" "_law_take" (defArgs s__law_take) (defBody s__law_take) (defScope s__law_take) .none kV__law_take dc__law_take pm__law_take an__law_take cd__law_take ct__law_take), sl__law_take⟩)
    (c__law_take : PySem.W.codeIn K cd__law_take "_law_take" = true)
    (k__law_take : PySem.W.keepIn K (.ref f__law_take) = true)
    (a__law_names : PySem.W.nsIn K mainGlobals "_law_names" = some (some (.ref f__law_names)))
    (l__law_names : K.lookup f__law_names = some ⟨oc__law_names, od__law_names, .func (PySem.W.fnOf "_law_names" "_law_names" (defArgs s__law_names) (defBody s__law_names) (defScope s__law_names) .none kV__law_names dc__law_names pm__law_names an__law_names cd__law_names ct__law_names), sl__law_names⟩)
    (c__law_names : PySem.W.codeIn K cd__law_names "_law_names" = true)
    (k__law_names : PySem.W.keepIn K (.ref f__law_names) = true)
    (a__law_turned : PySem.W.nsIn K mainGlobals "_law_turned" = some (some (.ref f__law_turned)))
    (l__law_turned : K.lookup f__law_turned = some ⟨oc__law_turned, od__law_turned, .func (PySem.W.fnOf "_law_turned" "_law_turned" (defArgs s__law_turned) (defBody s__law_turned) (defScope s__law_turned) .none kV__law_turned dc__law_turned pm__law_turned an__law_turned cd__law_turned ct__law_turned), sl__law_turned⟩)
    (c__law_turned : PySem.W.codeIn K cd__law_turned "_law_turned" = true)
    (k__law_turned : PySem.W.keepIn K (.ref f__law_turned) = true)
    (a__law_due : PySem.W.nsIn K mainGlobals "_law_due" = some (some (.ref f__law_due)))
    (l__law_due : K.lookup f__law_due = some ⟨oc__law_due, od__law_due, .func (PySem.W.fnOf "_law_due" "_law_due" (defArgs s__law_due) (defBody s__law_due) (defScope s__law_due) .none kV__law_due dc__law_due pm__law_due an__law_due cd__law_due ct__law_due), sl__law_due⟩)
    (c__law_due : PySem.W.codeIn K cd__law_due "_law_due" = true)
    (k__law_due : PySem.W.keepIn K (.ref f__law_due) = true)
    (a_law : PySem.W.nsIn K mainGlobals "law" = some (some (.ref f_law)))
    (l_law : K.lookup f_law = some ⟨oc_law, od_law, .func (PySem.W.fnOf "law" "law" (defArgs s_law) (defBody s_law) (defScope s_law) .none kV_law dc_law pm_law an_law cd_law ct_law), sl_law⟩)
    (c_law : PySem.W.codeIn K cd_law "law" = true)
    (k_law : PySem.W.keepIn K (.ref f_law) = true)
    (pg_Drawing : PySem.W.plainGet K C_Drawing Str.empty = true)
    (hd_Drawing : PySem.W.hasDictIn K C_Drawing = true)
    (po_Drawing : PySem.W.plainOver K C_Drawing = true)
    (sa_Drawing : PySem.W.findIn K (.ref C_Drawing) "__setattr__" = some (some (.builtin "object.__setattr__")))
    (mkk_Drawing : PySem.W.makesIn K C_Drawing = true)
    (kc_Drawing : PySem.W.keepIn K (.ref C_Drawing) = true)
    (ha_Drawing : PySem.W.findIn K (.ref C_Drawing) "__class__" = some (some (.builtin "object.__class__")))
    (hn_Drawing : PySem.W.specialIn K (.builtin "object.__class__") "__get__" = some (some (.builtin "getset_descriptor.__get__")))
    (ht_Drawing : PySem.W.takesIn K (.builtin "object.__class__") = some true)
    (hm_Drawing : PySem.W.mroIn K C_Drawing (.type "object") = some true)
    (na_Drawing_pairs : PySem.W.findIn K (.ref C_Drawing) "pairs" = some none)
    (pg_Circle : PySem.W.plainGet K C_Circle Str.empty = true)
    (hd_Circle : PySem.W.hasDictIn K C_Circle = true)
    (po_Circle : PySem.W.plainOver K C_Circle = true)
    (sa_Circle : PySem.W.findIn K (.ref C_Circle) "__setattr__" = some (some (.builtin "object.__setattr__")))
    (mkk_Circle : PySem.W.makesIn K C_Circle = true)
    (kc_Circle : PySem.W.keepIn K (.ref C_Circle) = true)
    (ha_Circle : PySem.W.findIn K (.ref C_Circle) "__class__" = some (some (.builtin "object.__class__")))
    (hn_Circle : PySem.W.specialIn K (.builtin "object.__class__") "__get__" = some (some (.builtin "getset_descriptor.__get__")))
    (ht_Circle : PySem.W.takesIn K (.builtin "object.__class__") = some true)
    (hm_Circle : PySem.W.mroIn K C_Circle (.type "object") = some true)
    (na_Circle_members : PySem.W.findIn K (.ref C_Circle) "members" = some none)
    (na_Circle_bars : PySem.W.findIn K (.ref C_Circle) "bars" = some none)
    (na_Circle_past : PySem.W.findIn K (.ref C_Circle) "past" = some none)
    (na_Circle_gap : PySem.W.findIn K (.ref C_Circle) "gap" = some none)
    (na_Circle_houses : PySem.W.findIn K (.ref C_Circle) "houses" = some none)
    (na_Circle_names_told : PySem.W.findIn K (.ref C_Circle) "names_told" = some none)
    (na_Circle_barred : PySem.W.findIn K (.ref C_Circle) "barred" = some none)
    (na_Circle_gone_by : PySem.W.findIn K (.ref C_Circle) "gone_by" = some none)
    (g_LETTERS : PySem.W.nsIn K mainGlobals "LETTERS" = some (some (.str "abcdefghijklmnopqrstuvwxyz" tk_LETTERS)))
    (g_MOST_LETTERS : PySem.W.nsIn K mainGlobals "MOST_LETTERS" = some (some (.int 12 tk_MOST_LETTERS)))
    (n_len : PySem.W.nsIn K mainGlobals "len" = some none)
    (n_abs : PySem.W.nsIn K mainGlobals "abs" = some none)
    (n_all : PySem.W.nsIn K mainGlobals "all" = some none)
    (n_any : PySem.W.nsIn K mainGlobals "any" = some none)
    (n_range : PySem.W.nsIn K mainGlobals "range" = some none)
    (n_isinstance : PySem.W.nsIn K mainGlobals "isinstance" = some none)
    (n_list : PySem.W.nsIn K mainGlobals "list" = some none)
    (n_tuple : PySem.W.nsIn K mainGlobals "tuple" = some none)
    (n_str : PySem.W.nsIn K mainGlobals "str" = some none)
    (n_sorted : PySem.W.nsIn K mainGlobals "sorted" = some none)
    (n_zip : PySem.W.nsIn K mainGlobals "zip" = some none)
    (n_set : PySem.W.nsIn K mainGlobals "set" = some none)
    (n_max : PySem.W.nsIn K mainGlobals "max" = some none)
    (n_min : PySem.W.nsIn K mainGlobals "min" = some none)
    (n_dict : PySem.W.nsIn K mainGlobals "dict" = some none)
    (n_sum : PySem.W.nsIn K mainGlobals "sum" = some none)
    (n_int : PySem.W.nsIn K mainGlobals "int" = some none)
    (n_bool : PySem.W.nsIn K mainGlobals "bool" = some none)
    (nd : PySem.W.nsIn K cStatics "sys.int_max_str_digits" = some none) : T46 K mg := {
  C_Drawing := C_Drawing
  C_Circle := C_Circle
  f_is_name := f_is_name
  fd_is_name := _
  F_is_name := fun_mk (st := s_is_name) l_is_name c_is_name k_is_name
  b_is_name := (fun_mk (st := s_is_name) l_is_name c_is_name k_is_name).binds (ps := ["thing"]) fun _ _ _ _ _ _ us hl => match us, hl with | [_], _ => rfl
  mg_is_name := PySem.W.mg_of X G a_is_name
  f_is_pair := f_is_pair
  fd_is_pair := _
  F_is_pair := fun_mk (st := s_is_pair) l_is_pair c_is_pair k_is_pair
  b_is_pair := (fun_mk (st := s_is_pair) l_is_pair c_is_pair k_is_pair).binds (ps := ["thing"]) fun _ _ _ _ _ _ us hl => match us, hl with | [_], _ => rfl
  mg_is_pair := PySem.W.mg_of X G a_is_pair
  f_does_rise := f_does_rise
  fd_does_rise := _
  F_does_rise := fun_mk (st := s_does_rise) l_does_rise c_does_rise k_does_rise
  b_does_rise := (fun_mk (st := s_does_rise) l_does_rise c_does_rise k_does_rise).binds (ps := ["things"]) fun _ _ _ _ _ _ us hl => match us, hl with | [_], _ => rfl
  mg_does_rise := PySem.W.mg_of X G a_does_rise
  f_are_pairs := f_are_pairs
  fd_are_pairs := _
  F_are_pairs := fun_mk (st := s_are_pairs) l_are_pairs c_are_pairs k_are_pairs
  b_are_pairs := (fun_mk (st := s_are_pairs) l_are_pairs c_are_pairs k_are_pairs).binds (ps := ["thing"]) fun _ _ _ _ _ _ us hl => match us, hl with | [_], _ => rfl
  mg_are_pairs := PySem.W.mg_of X G a_are_pairs
  f_are_drawn := f_are_drawn
  fd_are_drawn := _
  F_are_drawn := fun_mk (st := s_are_drawn) l_are_drawn c_are_drawn k_are_drawn
  b_are_drawn := (fun_mk (st := s_are_drawn) l_are_drawn c_are_drawn k_are_drawn).binds (ps := ["thing"]) fun _ _ _ _ _ _ us hl => match us, hl with | [_], _ => rfl
  mg_are_drawn := PySem.W.mg_of X G a_are_drawn
  f_Drawing___init__ := f_Drawing___init__
  fd_Drawing___init__ := _
  F_Drawing___init__ := fun_mk (st := s_Drawing___init__) l_Drawing___init__ c_Drawing___init__ k_Drawing___init__
  b_Drawing___init__ := (fun_mk (st := s_Drawing___init__) l_Drawing___init__ c_Drawing___init__ k_Drawing___init__).binds (ps := ["self", "pairs"]) fun _ _ _ _ _ _ us hl => match us, hl with | [_, _], _ => rfl
  a_Drawing___init__ := a_Drawing___init__
  i_Drawing___init__ := i_Drawing___init__
  f_keeps := f_keeps
  fd_keeps := _
  F_keeps := fun_mk (st := s_keeps) l_keeps c_keeps k_keeps
  b_keeps := (fun_mk (st := s_keeps) l_keeps c_keeps k_keeps).binds (ps := ["circle", "drawing"]) fun _ _ _ _ _ _ us hl => match us, hl with | [_, _], _ => rfl
  mg_keeps := PySem.W.mg_of X G a_keeps
  f_broken := f_broken
  fd_broken := _
  F_broken := fun_mk (st := s_broken) l_broken c_broken k_broken
  b_broken := (fun_mk (st := s_broken) l_broken c_broken k_broken).binds (ps := ["circle", "drawing"]) fun _ _ _ _ _ _ us hl => match us, hl with | [_, _], _ => rfl
  mg_broken := PySem.W.mg_of X G a_broken
  f_are_members := f_are_members
  fd_are_members := _
  F_are_members := fun_mk (st := s_are_members) l_are_members c_are_members k_are_members
  b_are_members := (fun_mk (st := s_are_members) l_are_members c_are_members k_are_members).binds (ps := ["circle", "thing"]) fun _ _ _ _ _ _ us hl => match us, hl with | [_, _], _ => rfl
  mg_are_members := PySem.W.mg_of X G a_are_members
  f_are_years := f_are_years
  fd_are_years := _
  F_are_years := fun_mk (st := s_are_years) l_are_years c_are_years k_are_years
  b_are_years := (fun_mk (st := s_are_years) l_are_years c_are_years k_are_years).binds (ps := ["circle", "thing"]) fun _ _ _ _ _ _ us hl => match us, hl with | [_, _], _ => rfl
  mg_are_years := PySem.W.mg_of X G a_are_years
  f_pairs_between := f_pairs_between
  fd_pairs_between := _
  F_pairs_between := fun_mk (st := s_pairs_between) l_pairs_between c_pairs_between k_pairs_between
  b_pairs_between := (fun_mk (st := s_pairs_between) l_pairs_between c_pairs_between k_pairs_between).binds (ps := ["circle", "givers", "takers"]) fun _ _ _ _ _ _ us hl => match us, hl with | [_, _, _], _ => rfl
  mg_pairs_between := PySem.W.mg_of X G a_pairs_between
  f_shows_years := f_shows_years
  fd_shows_years := _
  F_shows_years := fun_mk (st := s_shows_years) l_shows_years c_shows_years k_shows_years
  b_shows_years := (fun_mk (st := s_shows_years) l_shows_years c_shows_years k_shows_years).binds (ps := ["circle", "drawings", "givers", "takers"]) fun _ _ _ _ _ _ us hl => match us, hl with | [_, _, _, _], _ => rfl
  mg_shows_years := PySem.W.mg_of X G a_shows_years
  f_Circle___init__ := f_Circle___init__
  fd_Circle___init__ := _
  F_Circle___init__ := ⟨⟨oc_Circle___init__, od_Circle___init__, dV_Circle___init__, kV_Circle___init__, dc_Circle___init__, pm_Circle___init__, an_Circle___init__, cd_Circle___init__, ct_Circle___init__, sl_Circle___init__, rfl, l_Circle___init__, c_Circle___init__, dv_Circle___init__, .inl rfl⟩, k_Circle___init__⟩
  a_Circle___init__ := a_Circle___init__
  i_Circle___init__ := i_Circle___init__
  f_Circle_names := f_Circle_names
  fd_Circle_names := _
  F_Circle_names := fun_mk (st := s_Circle_names) l_Circle_names c_Circle_names k_Circle_names
  b_Circle_names := (fun_mk (st := s_Circle_names) l_Circle_names c_Circle_names k_Circle_names).binds (ps := ["self"]) fun _ _ _ _ _ _ us hl => match us, hl with | [_], _ => rfl
  a_Circle_names := a_Circle_names
  i_Circle_names := i_Circle_names
  mt_Circle_names := ⟨a_Circle_names, i_Circle_names, k_Circle_names⟩
  f_Circle_house_of := f_Circle_house_of
  fd_Circle_house_of := _
  F_Circle_house_of := fun_mk (st := s_Circle_house_of) l_Circle_house_of c_Circle_house_of k_Circle_house_of
  b_Circle_house_of := (fun_mk (st := s_Circle_house_of) l_Circle_house_of c_Circle_house_of k_Circle_house_of).binds (ps := ["self", "name"]) fun _ _ _ _ _ _ us hl => match us, hl with | [_, _], _ => rfl
  a_Circle_house_of := a_Circle_house_of
  i_Circle_house_of := i_Circle_house_of
  mt_Circle_house_of := ⟨a_Circle_house_of, i_Circle_house_of, k_Circle_house_of⟩
  f_Circle_reason := f_Circle_reason
  fd_Circle_reason := _
  F_Circle_reason := fun_mk (st := s_Circle_reason) l_Circle_reason c_Circle_reason k_Circle_reason
  b_Circle_reason := (fun_mk (st := s_Circle_reason) l_Circle_reason c_Circle_reason k_Circle_reason).binds (ps := ["self", "giver", "taker"]) fun _ _ _ _ _ _ us hl => match us, hl with | [_, _, _], _ => rfl
  a_Circle_reason := a_Circle_reason
  i_Circle_reason := i_Circle_reason
  mt_Circle_reason := ⟨a_Circle_reason, i_Circle_reason, k_Circle_reason⟩
  f_Circle_takers := f_Circle_takers
  fd_Circle_takers := _
  F_Circle_takers := fun_mk (st := s_Circle_takers) l_Circle_takers c_Circle_takers k_Circle_takers
  b_Circle_takers := (fun_mk (st := s_Circle_takers) l_Circle_takers c_Circle_takers k_Circle_takers).binds (ps := ["self", "giver"]) fun _ _ _ _ _ _ us hl => match us, hl with | [_, _], _ => rfl
  a_Circle_takers := a_Circle_takers
  i_Circle_takers := i_Circle_takers
  mt_Circle_takers := ⟨a_Circle_takers, i_Circle_takers, k_Circle_takers⟩
  f__law_pot := f__law_pot
  fd__law_pot := _
  F__law_pot := fun_mk (st := s__law_pot) l__law_pot c__law_pot k__law_pot
  b__law_pot := (fun_mk (st := s__law_pot) l__law_pot c__law_pot k__law_pot).binds (ps := ["_law_script", "_law_k"]) fun _ _ _ _ _ _ us hl => match us, hl with | [_, _], _ => rfl
  mg__law_pot := PySem.W.mg_of X G a__law_pot
  f__law_take := f__law_take
  fd__law_take := _
  F__law_take := fun_mk (st := s__law_take) l__law_take c__law_take k__law_take
  b__law_take := (fun_mk (st := s__law_take) l__law_take c__law_take k__law_take).binds (ps := ["_law_pot_here", "_law_upto"]) fun _ _ _ _ _ _ us hl => match us, hl with | [_, _], _ => rfl
  mg__law_take := PySem.W.mg_of X G a__law_take
  f__law_names := f__law_names
  fd__law_names := _
  F__law_names := fun_mk (st := s__law_names) l__law_names c__law_names k__law_names
  b__law_names := (fun_mk (st := s__law_names) l__law_names c__law_names k__law_names).binds (ps := ["_law_pot_here", "_law_upto"]) fun _ _ _ _ _ _ us hl => match us, hl with | [_, _], _ => rfl
  mg__law_names := PySem.W.mg_of X G a__law_names
  f__law_turned := f__law_turned
  fd__law_turned := _
  F__law_turned := fun_mk (st := s__law_turned) l__law_turned c__law_turned k__law_turned
  b__law_turned := (fun_mk (st := s__law_turned) l__law_turned c__law_turned k__law_turned).binds (ps := ["_law_pot_here", "_law_some"]) fun _ _ _ _ _ _ us hl => match us, hl with | [_, _], _ => rfl
  mg__law_turned := PySem.W.mg_of X G a__law_turned
  f__law_due := f__law_due
  fd__law_due := _
  F__law_due := fun_mk (st := s__law_due) l__law_due c__law_due k__law_due
  b__law_due := (fun_mk (st := s__law_due) l__law_due c__law_due k__law_due).binds (ps := ["_law_may", "_law_drawings", "_law_givers", "_law_takers"]) fun _ _ _ _ _ _ us hl => match us, hl with | [_, _, _, _], _ => rfl
  mg__law_due := PySem.W.mg_of X G a__law_due
  f_law := f_law
  fd_law := _
  F_law := fun_mk (st := s_law) l_law c_law k_law
  b_law := (fun_mk (st := s_law) l_law c_law k_law).binds (ps := ["_law_script"]) fun _ _ _ _ _ _ us hl => match us, hl with | [_], _ => rfl
  mg_law := PySem.W.mg_of X G a_law
  mg_Drawing := PySem.W.mg_of X G aC_Drawing
  cl_Drawing := ⟨pg_Drawing, hd_Drawing, po_Drawing, sa_Drawing⟩
  mk_Drawing := ⟨mkk_Drawing, a_Drawing___init__, i_Drawing___init__, kc_Drawing⟩
  ok_Drawing := ⟨⟨pg_Drawing, hd_Drawing, po_Drawing, sa_Drawing⟩, ha_Drawing, hn_Drawing, ht_Drawing, hm_Drawing⟩
  na_Drawing_pairs := na_Drawing_pairs
  mg_Circle := PySem.W.mg_of X G aC_Circle
  cl_Circle := ⟨pg_Circle, hd_Circle, po_Circle, sa_Circle⟩
  mk_Circle := ⟨mkk_Circle, a_Circle___init__, i_Circle___init__, kc_Circle⟩
  ok_Circle := ⟨⟨pg_Circle, hd_Circle, po_Circle, sa_Circle⟩, ha_Circle, hn_Circle, ht_Circle, hm_Circle⟩
  na_Circle_members := na_Circle_members
  na_Circle_bars := na_Circle_bars
  na_Circle_past := na_Circle_past
  na_Circle_gap := na_Circle_gap
  na_Circle_houses := na_Circle_houses
  na_Circle_names_told := na_Circle_names_told
  na_Circle_barred := na_Circle_barred
  na_Circle_gone_by := na_Circle_gone_by
  tk_LETTERS := tk_LETTERS
  mg_LETTERS := PySem.W.mg_of X G g_LETTERS
  tk_MOST_LETTERS := tk_MOST_LETTERS
  mg_MOST_LETTERS := PySem.W.mg_of X G g_MOST_LETTERS
  n_len := PySem.W.mg_none_of X G n_len
  n_abs := PySem.W.mg_none_of X G n_abs
  n_all := PySem.W.mg_none_of X G n_all
  n_any := PySem.W.mg_none_of X G n_any
  n_range := PySem.W.mg_none_of X G n_range
  n_isinstance := PySem.W.mg_none_of X G n_isinstance
  n_list := PySem.W.mg_none_of X G n_list
  n_tuple := PySem.W.mg_none_of X G n_tuple
  n_str := PySem.W.mg_none_of X G n_str
  n_sorted := PySem.W.mg_none_of X G n_sorted
  n_zip := PySem.W.mg_none_of X G n_zip
  n_set := PySem.W.mg_none_of X G n_set
  n_max := PySem.W.mg_none_of X G n_max
  n_min := PySem.W.mg_none_of X G n_min
  n_dict := PySem.W.mg_none_of X G n_dict
  n_sum := PySem.W.mg_none_of X G n_sum
  n_int := PySem.W.mg_none_of X G n_int
  n_bool := PySem.W.mg_none_of X G n_bool
  nd := nd }
def tabDr (C : Addr) : Tab
  | .obj C' => if C' = C then some true else none
  | _ => none
theorem T46.isi_Drawing {K : PySem.W.Frag} {mg : Str → Option Value} (T : T46 K mg) : IsiOk K (.ref T.C_Drawing) (tabDr T.C_Drawing) := ⟨fun t b h => by
  cases t with
  | obj C' =>
    unfold tabDr at h
    dsimp only at h
    split at h
    · rename_i hc
      cases h
      subst hc
      exact ⟨if_pos (beq_self_eq_true _), fun C z => by cases z; exact T.ok_Drawing⟩
    · cases h
  | _ => cases h⟩
/-- Circle(members), Circle(members, bars): the others by default -/
theorem T46.dfl {K : PySem.W.Frag} {mg : Str → Option Value} (T : T46 K mg) : ∃ ds0, Dfl K [.non, .non, .int 1] ds0 [.non, .non, .int 1] ∧ Binds K T.fd_Circle___init__ ["self", "members", "bars", "past", "gap"] ds0 := by
  obtain ⟨ds, h1, h2⟩ := T.F_Circle___init__.binds1 (ps := ["self", "members", "bars", "past", "gap"]) 2 0 (by simp) rfl (fun T' kV doc pm an cdv ct us its hu hi => by
    match us, hu, its, hi with
    | [_, _], _, [_, _, _], _ => exact ⟨_, rfl, rfl⟩)
  exact ⟨ds, ⟨h1, fun m H => .cons .non (.cons .non (.cons (.int 1) .nil))⟩, h2⟩
theorem T46.dfl2 {K : PySem.W.Frag} {mg : Str → Option Value} (T : T46 K mg) : ∃ ds0, Dfl K [.non, .int 1] ds0 [.non, .int 1] ∧ Binds K T.fd_Circle___init__ ["self", "members", "bars", "past", "gap"] ds0 := by
  obtain ⟨ds, h1, h2⟩ := T.F_Circle___init__.binds1 (ps := ["self", "members", "bars", "past", "gap"]) 3 1 (by simp) rfl (fun T' kV doc pm an cdv ct us its hu hi => by
    match us, hu, its, hi with
    | [_, _, _], _, [_, _, _], _ => exact ⟨_, rfl, rfl⟩)
  exact ⟨ds, ⟨h1, fun m H => .cons .non (.cons (.int 1) .nil)⟩, h2⟩
end K46

/-! the plain law: rows of pairs, read in two ways -/
namespace K59
open PySem PySem.Spec PyProof.Rows L2 MP TL
abbrev lets : Str := "abcdefghijklmnopqrstuvwxyz"
def isL (c : Nat) : Bool := decide (c ∈ lets.cps.toList)
def nm (x : Str) : Bool := decide (1 ≤ x.length ∧ x.length ≤ 12) && (tl x).all isL
abbrev Pr := Str × Str
def slt (a b : Str) : Bool := decide (tl a < tl b)
def givs (ps : List Pr) : List Str := ps.map (·.1)
def taks (ps : List Pr) : List Str := ps.map (·.2)
def still (ps : List Pr) : List Str := (ps.filter fun p => !decide (p.2 ∈ givs ps)).map (·.2)
/-- a giver who is not behind the last one -/
def late (ps : List Pr) (a : Str) : Bool := match ps.getLast? with
  | some p => !slt p.1 a
  | none => false
def mayP (ps : List Pr) (ws : List Str) : Bool := match ws with
  | [a, m, b] => decide (m = ">") && nm a && nm b && !(late ps a || decide (b ∈ taks ps)) && (still (ps ++ [(a, b)])).all fun t => slt a t
  | _ => false
def pairOf (ws : List Str) : Pr := (ws.getD 0 Str.empty, ws.getD 2 Str.empty)
def goP : Nat → List Pr → List Str → Nat ⊕ List Pr
  | _, ps, [] => .inr ps
  | n, ps, r :: rs => if mayP ps (Txt.split r " ") = true then goP (n + 1) (ps ++ [pairOf (Txt.split r " ")]) rs else .inl n
def rowsOf (t : Str) : List Str := if t = Str.empty then [] else Txt.split t "\n"
def readP (t : Str) : Nat ⊕ List Pr := match goP 0 [] (rowsOf t) with
  | .inl n => .inl n
  | .inr ps => if still ps = [] then .inr ps else .inl (rowsOf t).length
def mayL (ps : List Pr) (ws : List Str) : Bool := match ws with
  | [a, b] => nm a && nm b && !(late ps a || decide (b ∈ taks ps))
  | _ => false
def pairOfL (ws : List Str) : Pr := (ws.getD 0 Str.empty, ws.getD 1 Str.empty)
def badL (ps : List Pr) (a : Str) : Bool := ps.any fun p => slt p.2 a && !decide (p.2 ∈ givs ps)
def goL : Nat → List Pr → List Str → Nat ⊕ List Pr
  | _, ps, [] => .inr ps
  | n, ps, r :: rs => if mayL ps (Txt.split r " > ") = true then (if badL (ps ++ [pairOfL (Txt.split r " > ")]) (pairOfL (Txt.split r " > ")).1 = true then .inl n else goL (n + 1) (ps ++ [pairOfL (Txt.split r " > ")]) rs) else .inl n
def readL (t : Str) : Nat ⊕ List Pr := match goL 0 [] (rowsOf t) with
  | .inl n => .inl n
  | .inr ps => if (ps.any fun p => !decide (p.2 ∈ givs ps)) = true then .inl (rowsOf t).length else .inr ps
/-! ### texts -/
theorem slt_irrefl (a : Str) : slt a a = false := decide_eq_false (List.lt_irrefl _)
theorem slt_tri {a b : Str} (h : a ≠ b) : slt a b = !slt b a := by
  unfold slt
  by_cases h1 : tl a < tl b
  · rw [decide_eq_true h1, decide_eq_false (List.lt_asymm h1)]; rfl
  · by_cases h2 : tl b < tl a
    · rw [decide_eq_true h2, decide_eq_false h1]; rfl
    · exact absurd (ext_tl (List.le_antisymm (List.not_lt.mp h2) (List.not_lt.mp h1))) h
theorem slt_trans {a b c : Str} (h1 : slt a b = true) (h2 : slt b c = true) : slt a c = true :=
  decide_eq_true (List.lt_trans (of_decide_eq_true h1) (of_decide_eq_true h2))
theorem slt_ne {a b : Str} (h : slt a b = true) : a ≠ b := fun e => by rw [e, slt_irrefl] at h; cases h
/-! ### one row -/
/-! ### what is read is drawn -/
structure Ok (ps : List Pr) : Prop where
  nm : ∀ p ∈ ps, K59.nm p.1 = true ∧ K59.nm p.2 = true
  ri : (givs ps).Pairwise fun a b => slt a b = true
  nd : (taks ps).Nodup
theorem cnt_nodup {l : List Str} (h : l.Nodup) : ∀ i, i ≤ l.length → cntS l i = i
  | 0, _ => rfl
  | i + 1, hi => by
    have ih := cnt_nodup h i (by omega)
    have hlt : i < l.length := by omega
    unfold cntS
    rw [if_neg, ih]
    have e : l.getD i Str.empty = l[i] := by simp [hlt]
    rw [e, List.any_eq_true]
    rintro ⟨x, hx, hq⟩
    have ex : x = l[i] := by simpa using hq
    subst ex
    obtain ⟨j, hj, ej⟩ := List.mem_iff_getElem.mp hx
    rw [List.getElem_take] at ej
    have hji : j < i := by simp at hj; omega
    have := (List.getElem_inj h).mp ej
    omega
/-! ### the law's look at names -/
/-! ### sorted -/
def sle (a b : Str) : Bool := decide (tl a ≤ tl b)
theorem leD_str (a b : Str) : leD (.str a) (.str b) = sle a b := by
  have := congrFun (congrFun (PySem.W.dataLe_str (fun x : Str => x)) a) b
  exact this
theorem srt_strs (ys : List Str) (h : ys.length ≤ 100000) : srtOk (ys.map D.str) = true := by
  unfold srtOk
  simp only [Bool.and_eq_true, List.all_eq_true, decide_eq_true_eq, Bool.or_eq_true]
  refine ⟨⟨⟨⟨fun x hx => ?_, fun x hx y hy => ?_⟩, .inr fun x hx => ?_⟩, fun x hx => ?_⟩, by rw [List.length_map]; exact Nat.le_trans h (by decide)⟩
  all_goals obtain ⟨a, _, rfl⟩ := List.mem_map.mp hx
  · rfl
  · obtain ⟨b, _, rfl⟩ := List.mem_map.mp hy
    rfl
  · rfl
  · simp [MP.encD, toPD, PyData.depth]
theorem sorted_strs (S : Sto) (d : D) (ys : List Str) (h : vw S d = .lst (ys.map D.str)) (hl : ys.length ≤ 100000) : gSorted S [d] = some (.lst ((ys.mergeSort sle).map D.str)) := by
  unfold gSorted
  dsimp only
  rw [h]
  dsimp only
  rw [if_pos (srt_strs ys hl)]
  have e := List.map_mergeSort (r := sle) (s := leD) (f := D.str) (l := ys) (fun a _ b _ => (leD_str a b).symm)
  rw [e]
/-! ### a list of texts is itself -/
theorem toPDs_str : ∀ ys : List Str, toPDs (ys.map D.str) = some (ys.map PyData.str)
  | [] => rfl
  | x :: r => by simp [toPDs, toPD, toPDs_str r]
theorem canLay_str : ∀ {ys : List Str}, (∀ y ∈ ys, PyData.strOk y = true) → PyData.canLayAll0 (ys.map PyData.str) = true
  | [], _ => rfl
  | x :: r, h => by
    have e := canLay_str (ys := r) fun y hy => h y (List.mem_cons_of_mem _ hy)
    simp [PyData.canLayAll0, PyData.canLay0, h x (by simp), e]
theorem nm_ok {x : Str} (h : nm x = true) : PyData.strOk x = true := by
  unfold nm at h
  rw [Bool.and_eq_true, List.all_eq_true] at h
  unfold PyData.strOk
  rw [← Array.all_toList, List.all_eq_true]
  intro c hc
  have hb : (lets.cps.toList.all fun c => decide (c < 1000)) = true := by decide
  have := List.all_eq_true.mp hb c (of_decide_eq_true (h.2 c hc))
  have := of_decide_eq_true this
  exact decide_eq_true (by omega)
theorem depth_str : ∀ own : List Str, PyData.depthAll (own.map PyData.str) ≤ 1
  | [] => by simp [PyData.depthAll]
  | x :: r => by
    have := depth_str r
    simp only [List.map_cons, PyData.depthAll, PyData.depth]
    omega
theorem shaped_str {own : List Str} (hy : ∀ y ∈ own, PyData.strOk y = true) : SeqAt.shaped (.list (own.map PyData.str)) = true := by
  unfold SeqAt.shaped
  have h := depth_str own
  rw [Bool.and_eq_true]
  exact ⟨by simp only [PyData.canLay0]; exact canLay_str hy, decide_eq_true (by simp only [PyData.depth]; omega)⟩
end K59

/-! the plain law of k06: drawn, in two ways -/
namespace K06
open PySem PySem.Spec PyProof.Rows L2 MP TL K59
def riP (q : Pr × Pr) : Bool := ltP q.1.1 q.1.2 q.2.1 q.2.2
/-- as the program asks -/
def drawnA (ps : List Pr) : Bool := (ps.zip (ps.drop 1)).all riP && decide (cntS (givs ps) ps.length = ps.length) && decide ((taks ps).mergeSort sle = givs ps)
/-- as the law asks -/
def drawnB (ps : List Pr) : Bool := decide (givs ps = srtS (givs ps)) && decide ((taks ps).mergeSort sle = givs ps)
theorem pair_rise : ∀ ps : List Pr, ((givs ps).Pairwise fun a b => slt a b = true) → (ps.zip (ps.drop 1)).all riP = true
  | [], _ => rfl
  | [p], _ => rfl
  | p :: q :: r, h => by
    have h' : (p.1 :: givs (q :: r)).Pairwise fun a b => slt a b = true := h
    rw [List.pairwise_cons] at h'
    have ih := pair_rise (q :: r) h'.2
    have hs := h'.1 q.1 (by simp [givs])
    show (riP (p, q) && ((q :: r).zip r).all riP) = true
    rw [Bool.and_eq_true]
    refine ⟨?_, ih⟩
    unfold riP ltP
    dsimp only
    rw [if_neg (slt_ne hs)]
    exact hs
end K06

/-! a shown text has signs below 0x110000 -/
namespace K06
open PySem PySem.Spec PyProof.Rows L2 MP TL
def Cd (x : Str) : Prop := ∀ c ∈ tl x, c < 0x110000
theorem Cd.app {x y : Str} (h : Cd x) (h2 : Cd y) : Cd (x ++ y) := fun c hc => by
  rw [tl_append] at hc
  exact (List.mem_append.mp hc).elim (h c) (h2 c)
theorem char_lt (c : Char) : c.toNat < 0x110000 := by
  have := c.valid
  unfold UInt32.isValidChar Nat.isValidChar at this
  show c.val.toNat < _
  omega
theorem cd_of (s : String) : Cd (Str.ofString s) := fun c hc => by
  rw [tl_ofString] at hc
  obtain ⟨d, _, rfl⟩ := List.mem_map.mp hc
  exact char_lt d
theorem cd_hex (w c : Nat) : ∀ d ∈ List.replicate (w - ((Nat.toDigits 16 c).map Char.toNat).length) 48 ++ (Nat.toDigits 16 c).map Char.toNat, d < 0x110000 := fun d hd => by
  rcases List.mem_append.mp hd with h | h
  · rw [(List.mem_replicate.mp h).2]; decide
  · obtain ⟨e, _, rfl⟩ := List.mem_map.mp h
    exact char_lt e
theorem cd_char (q c : Nat) (h : c < 0x110000) : ∀ d ∈ PySem.Builtin.Str.reprChar q c, d < 0x110000 := by
  unfold PySem.Builtin.Str.reprChar
  intro d hd
  dsimp only at hd
  have hx := fun w => cd_hex w c
  split at hd
  · simp only [List.mem_cons, List.not_mem_nil, or_false] at hd
    rcases hd with rfl | rfl
    · decide
    · exact h
  · split at hd
    · simp only [List.mem_cons, List.not_mem_nil, or_false] at hd
      rcases hd with rfl | rfl <;> decide
    · split at hd
      · simp only [List.mem_cons, List.not_mem_nil, or_false] at hd
        rcases hd with rfl | rfl <;> decide
      · split at hd
        · simp only [List.mem_cons, List.not_mem_nil, or_false] at hd
          rcases hd with rfl | rfl <;> decide
        · split at hd
          · rw [List.mem_singleton.mp hd]; exact h
          · split at hd
            · rcases List.mem_append.mp hd with hd | hd
              · simp only [List.mem_cons, List.not_mem_nil, or_false] at hd
                rcases hd with rfl | rfl <;> decide
              · exact hx 2 d hd
            · split at hd
              · rcases List.mem_append.mp hd with hd | hd
                · simp only [List.mem_cons, List.not_mem_nil, or_false] at hd
                  rcases hd with rfl | rfl <;> decide
                · exact hx 4 d hd
              · rcases List.mem_append.mp hd with hd | hd
                · simp only [List.mem_cons, List.not_mem_nil, or_false] at hd
                  rcases hd with rfl | rfl <;> decide
                · exact hx 8 d hd
theorem cd_fold (q : Nat) : ∀ (l : List Nat) (acc : Array Nat), (∀ c ∈ l, c < 0x110000) → (∀ c ∈ acc.toList, c < 0x110000) → ∀ c ∈ (l.foldl (fun out c => out ++ (PySem.Builtin.Str.reprChar q c).toArray) acc).toList, c < 0x110000
  | [], acc, _, h => h
  | d :: l, acc, hl, h => by
    refine cd_fold q l _ (fun c hc => hl c (by simp [hc])) fun c hc => ?_
    rw [Array.toList_append] at hc
    rcases List.mem_append.mp hc with hc | hc
    · exact h c hc
    · exact cd_char q d (hl d (by simp)) c hc
theorem cd_repr {x : Str} (h : Cd x) : Cd (reprText x) := by
  intro c hc
  have hq : reprQuote x < 0x110000 := by
    unfold reprQuote
    split <;> decide
  unfold reprText at hc
  have e : tl (⟨(x.cps.foldl (fun out c => out ++ (PySem.Builtin.Str.reprChar (reprQuote x) c).toArray) #[reprQuote x]).push (reprQuote x)⟩ : Str) = (x.cps.foldl (fun out c => out ++ (PySem.Builtin.Str.reprChar (reprQuote x) c).toArray) #[reprQuote x]).toList ++ [reprQuote x] := Array.toList_push ..
  rw [e] at hc
  rcases List.mem_append.mp hc with hc | hc
  · rw [← Array.foldl_toList] at hc
    exact cd_fold _ _ _ h (fun c hc => by rw [List.mem_singleton.mp hc]; exact hq) c hc
  · rw [List.mem_singleton.mp hc]; exact hq
/-- all its texts are good -/
def CdP : PyData → Prop := fun p => Cd p.shown
theorem Cd.ok {x : Str} (h : Cd x) : PyData.strOk x = true := by
  unfold PyData.strOk
  rw [← Array.all_toList, List.all_eq_true]
  intro c hc
  exact decide_eq_true (h c hc)
end K06

namespace K46
open PySem PySem.Spec PyProof.Rows L2 MP TL
open K59 (Pr nm givs taks slt isL lets nm_ok)
open K06 (riP Cd)
/-! ### names, pairs: of any datum -/
def pD (p : Pr) : D := .tup [.str p.1, .str p.2]
def psD (ps : List Pr) : List D := ps.map pD
theorem psD_len (ps : List Pr) : (psD ps).length = ps.length := by simp [psD]
def plainD : D → Bool
  | .ref _ => false
  | .obj _ _ => false
  | .exn _ _ => false
  | .ftup _ => false
  | .str x => decide (x.length ≤ 100000)
  | _ => true
def nmD : D → Bool
  | .str x => nm x
  | _ => false
def prD : D → Bool
  | .tup [a, b] => nmD a && nmD b
  | _ => false
/-- a datum, and what stands in it -/
def In1 (d : D) : Prop := plainD d = true ∧ ∀ xs, d = .tup xs → ∀ x ∈ xs, plainD x = true
def In2 (d : D) : Prop := plainD d = true ∧ ∀ xs, d = .tup xs → xs.length ≤ 3000 ∧ ∀ x ∈ xs, In1 x
def SName (g : F) : Prop := ∀ (S : Sto) (d : D), plainD d = true → g [d] S = .ok (.bl (nmD d)) S
def SPair (g : F) : Prop := ∀ (S : Sto) (d : D), In1 d → g [d] S = .ok (.bl (prD d)) S
def SRise (g : F) : Prop := ∀ (S : Sto) (ps : List Pr), ps.length ≤ 100000 → g [.tup (psD ps)] S = .ok (.bl ((ps.zip (ps.drop 1)).all riP)) S
theorem sz {n : Nat} (h : n ≤ 100000) : n ≤ sizeLine := Nat.le_trans h (by decide)
theorem len_str {S : Sto} {x : Str} (h : x.length ≤ 100000) : gLen S [.str x] = some (.int (x.length : Int)) := by
  unfold gLen
  dsimp only [vw]
  exact if_pos (sz h)
theorem isi_ok {tab : Tab} {l : LE} {ρ : Ev} {S S1 : Sto} {d e : D} (h : l ρ S = .ok d S1) (h2 : gIsi tab S1 d = some e) : lIsi tab l ρ S = .ok e S1 := by
  unfold lIsi; rw [h, bind_ok, h2]; rfl
theorem cut1 (xs : List D) : MP.cutD xs (some 1) none = xs.drop 1 := by
  unfold MP.cutD
  have e1 : HT.sIx xs.length xs.length none = xs.length := rfl
  have e2 : HT.sIx xs.length 0 (some 1) = min 1 xs.length := by
    simp [HT.sIx]
    try omega
  rw [e1, e2]
  cases xs with
  | nil => rfl
  | cons x xs =>
    have : min 1 (x :: xs).length = 1 := by simp
    rw [this]
    simp
theorem zip_ps (ps qs : List Pr) : zipD (psD ps) (psD qs) = (ps.zip qs).map fun q => D.tup [pD q.1, pD q.2] := by
  unfold zipD psD
  induction ps generalizing qs with
  | nil => rfl
  | cons p ps ih => cases qs with
    | nil => rfl
    | cons q qs => simp [ih]
section
variable {P : Program} {w : World} {K : PySem.W.Frag} {mg : Str → Option Value} {base : Heap}
theorem ok_name (T : T46 K mg) : ∃ g, FnL P w K mg base 1 T.f_is_name T.fd_is_name ["thing"] g ∧ SName g := by
  refine ⟨_, Fun.okL T.F_is_name sc_is_name fun cdv A outer s H E hr =>
(pssl_cons (psl_if (PWL.pt (pwl_or (ptl_not (ptl_truth (pel_isi rfl T.n_isinstance (pel_var (i := 0)) (pe_bltn rfl T.n_str (v := .ty "str") (u := .type "str") (by decide +kernel) rfl) (.ty _) isi_strA))) (pwl_or1 (ptl_not (ptl_chain opl_le2 opl_le2 pel_int (pel_callB (cl_len) rfl T.n_len (by decide +kernel) (pal_cons (pel_var (i := 0)) pal_nil)) (pel_gint rfl T.mg_MOST_LETTERS)))))) (pssl_one (psl_ret pel_bl)) pssl_nil)
  (pssl_one (psl_ret (pel_callB (cl_all rfl) rfl T.n_all (by decide +kernel) (pal_cons (pel_lc (own := [("letter", 1)]) rfl sc_is_name.nd (pil_val (pel_var (i := 0))) (blkOk_by (N := N_is_name) (sc := defScope s_is_name) (by decide +kernel)) (fun _ _ _ _ _ => (pgl_name (i := 1) sc_is_name.nd)) (fun _ _ _ _ _ => ptsl_nil) (fun _ _ _ _ _ => (pel_cmp opl_inSg (pel_var (i := 1)) (pel_gstr rfl T.mg_LETTERS)))) pal_nil))))), ?_⟩
  intro S d hd
  have no : ∀ d : D, lIsi tabStrA (lVar 0) [some d, none] S = .ok (.bl false) S → tTru (lIsi tabStrA (lVar 0)) [some d, none] S = .ok false S := fun d h => tru_b h rfl
  cases d with
  | ref _ => cases hd
  | obj _ _ => cases hd
  | exn _ _ => cases hd
  | ftup _ => cases hd
  | str x =>
    have hx : x.length ≤ 100000 := of_decide_eq_true hd
    have hl : ∀ ρ : Ev, ρ[0]? = some (some (.str x)) → lCallB gLen (aCons (lVar 0) aNil) ρ S = .ok (.int (x.length : Int)) S := fun ρ h => callb_ok (acons_ok (by unfold lVar; rw [h]) rfl) (len_str hx)
    have hi : tTru (lIsi tabStrA (lVar 0)) [some (.str x), none] S = .ok true S := tru_b (isi_ok rfl rfl) rfl
    show _ = R.ok (D.bl (nm x)) S
    by_cases h1 : 1 ≤ x.length
    · by_cases h2 : x.length ≤ 12
      · have hc : tTru (lChain gLe2 gLe2 (lC (.int 1)) (lCallB gLen (aCons (lVar 0) aNil)) (lC (.int 12))) [some (.str x), none] S = .ok true S :=
          tru_b (chain_tt rfl (hl _ rfl) (show gLe2 S (.int 1) (.int (x.length : Int)) = some (.bl true) by show some (D.bl (decide ((1 : Int) ≤ x.length))) = _; rw [decide_eq_true (by omega)]) rfl (show gLe2 S (.int (x.length : Int)) (.int 12) = some (.bl (decide ((x.length : Int) ≤ 12))) from rfl)) (decide_eq_true (by omega))
        have hn : nm x = (tl x).all isL := by unfold nm; rw [decide_eq_true ⟨h1, h2⟩, Bool.true_and]
        rw [hn]
        refine body_rt (seq_nx (if_ff (or_ff (not_ok hi) (not_ok hc)) rfl) (ret_ok (callb_ok (acons_ok (comp_okL (iter_ok rfl rfl) (by show ((tl x).map _).length ≤ _; rw [List.length_map, ← len_tl]; omega) (comp_map (enc := fun c : Nat => D.str ⟨#[c]⟩) (f := fun c => .bl (isL c)) trivial (tl x) fun c hc => ?_)) rfl) (all_ok isL (tl x)))))
        exact ⟨_, rfl, bin_ok rfl rfl rfl⟩
      · have hc : tTru (lChain gLe2 gLe2 (lC (.int 1)) (lCallB gLen (aCons (lVar 0) aNil)) (lC (.int 12))) [some (.str x), none] S = .ok false S :=
          tru_b (chain_tt rfl (hl _ rfl) (show gLe2 S (.int 1) (.int (x.length : Int)) = some (.bl true) by show some (D.bl (decide ((1 : Int) ≤ x.length))) = _; rw [decide_eq_true (by omega)]) rfl (show gLe2 S (.int (x.length : Int)) (.int 12) = some (.bl (decide ((x.length : Int) ≤ 12))) from rfl)) (decide_eq_false (by omega))
        have hn : nm x = false := by unfold nm; rw [decide_eq_false (by omega), Bool.false_and]
        rw [hn]
        exact body_rt (seq_rt (if_tt (or_ff (not_ok hi) (not_ok hc)) (ret_ok rfl)))
    · have hc : tTru (lChain gLe2 gLe2 (lC (.int 1)) (lCallB gLen (aCons (lVar 0) aNil)) (lC (.int 12))) [some (.str x), none] S = .ok false S :=
        tru_b (chain_ff rfl (hl _ rfl) (show gLe2 S (.int 1) (.int (x.length : Int)) = some (.bl false) by show some (D.bl (decide ((1 : Int) ≤ x.length))) = _; rw [decide_eq_false (by omega)])) rfl
      have hn : nm x = false := by unfold nm; rw [decide_eq_false (by omega), Bool.false_and]
      rw [hn]
      exact body_rt (seq_rt (if_tt (or_ff (not_ok hi) (not_ok hc)) (ret_ok rfl)))
  | _ => exact body_rt (seq_rt (if_tt (or_tt (not_ok (no _ (isi_ok rfl rfl)))) (ret_ok rfl)))
theorem ok_pair (T : T46 K mg) : ∃ g, FnL P w K mg base 2 T.f_is_pair T.fd_is_pair ["thing"] g ∧ SPair g := by
  obtain ⟨gn, Fn_is_name, Sn⟩ := ok_name (P := P) (w := w) (base := base) T
  refine ⟨_, Fun.okL T.F_is_pair sc_is_pair fun cdv A outer s H E hr =>
(pssl_one (psl_ret (pel_and (pel_isi rfl T.n_isinstance (pel_var (i := 0)) (pe_bltn rfl T.n_tuple (v := .ty "tuple") (u := .type "tuple") (by decide +kernel) rfl) (.ty _) isi_tupleA) (pel_and (pel_cmp (opl_eq hr.units) (pel_callB (cl_len) rfl T.n_len (by decide +kernel) (pal_cons (pel_var (i := 0)) pal_nil)) pel_int) (pel_and (pel_call Fn_is_name (hr.mono (by decide)) rfl T.mg_is_name T.F_is_name.kp T.b_is_name dfl_nil (pal_cons (pel_ix ixl_seq (pel_var (i := 0)) pel_int) pal_nil)) (pel_one (pel_call Fn_is_name (hr.mono (by decide)) rfl T.mg_is_name T.F_is_name.kp T.b_is_name dfl_nil (pal_cons (pel_ix ixl_seq (pel_var (i := 0)) pel_int) pal_nil)))))))), ?_⟩
  intro S d hd
  obtain ⟨hd, hx⟩ := hd
  cases d with
  | ref _ => cases hd
  | obj _ _ => cases hd
  | exn _ _ => cases hd
  | ftup _ => cases hd
  | tup xs =>
    have hx := hx xs rfl
    have hlen : ∀ ρ : Ev, ρ[0]? = some (some (.tup xs)) → lBin gEq (lCallB gLen (aCons (lVar 0) aNil)) (lC (.int 2)) ρ S = .ok (.bl (decide ((xs.length : Int) = 2))) S := fun ρ h => bin_ok (callb_ok (acons_ok (by unfold lVar; rw [h]) rfl) rfl) rfl eq_ii
    match xs, hx, hlen with
    | [], _, hlen => exact body_rt (ret_ok (andv_tt (d := .bl true) (isi_ok rfl rfl) rfl (andv_ff (d := .bl false) (hlen _ rfl) rfl)))
    | [_], _, hlen => exact body_rt (ret_ok (andv_tt (d := .bl true) (isi_ok rfl rfl) rfl (andv_ff (d := .bl false) (hlen _ rfl) rfl)))
    | a :: b :: c :: r, _, hlen =>
      rw [decide_eq_false (by simp only [List.length_cons]; omega)] at hlen
      exact body_rt (ret_ok (andv_tt (d := .bl true) (isi_ok rfl rfl) rfl (andv_ff (d := .bl false) (hlen _ rfl) rfl)))
    | [a, b], hx, hlen =>
      have c0 : ∀ ρ : Ev, ρ[0]? = some (some (.tup [a, b])) → lCall 1 gn [] (aCons (lBin gIx (lVar 0) (lC (.int 0))) aNil) ρ S = .ok (.bl (nmD a)) S := fun ρ h => call_ok (acons_ok (bin_ok (by unfold lVar; rw [h]) rfl rfl) rfl) rfl (Sn S a (hx a (by simp)))
      have c1 : ∀ ρ : Ev, ρ[0]? = some (some (.tup [a, b])) → lCall 1 gn [] (aCons (lBin gIx (lVar 0) (lC (.int 1))) aNil) ρ S = .ok (.bl (nmD b)) S := fun ρ h => call_ok (acons_ok (bin_ok (by unfold lVar; rw [h]) rfl rfl) rfl) rfl (Sn S b (hx b (by simp)))
      show _ = R.ok (D.bl (nmD a && nmD b)) S
      refine body_rt (ret_ok (andv_tt (d := .bl true) (isi_ok rfl rfl) rfl (andv_tt (d := .bl true) (hlen _ rfl) rfl ?_)))
      cases q : nmD a with
      | false => exact andv_ff (d := .bl false) ((c0 _ rfl).trans (by rw [q])) rfl
      | true => exact andv_tt (d := .bl true) ((c0 _ rfl).trans (by rw [q])) rfl (c1 _ rfl)
  | _ => exact body_rt (ret_ok (andv_ff (d := .bl false) (isi_ok rfl rfl) rfl))
end
end K46

namespace K46
open PySem PySem.Spec PyProof.Rows L2 MP TL
open K59 (Pr nm givs taks slt isL lets nm_ok sle sorted_strs slt_tri cnt_nodup)
open K06 (riP Cd pair_rise cd_of cd_repr)

def Tx (m : Nat) (x : Str) : Prop := x.length ≤ m ∧ Cd x
def rsP (ps : List Pr) : Bool := (ps.zip (ps.drop 1)).all riP
def nmP (p : Pr) : Prop := nm p.1 = true ∧ nm p.2 = true
theorem erase_map {α β : Type} (f : α → β) : ∀ (xs : List α) (k : Nat), (xs.map f).eraseIdx k = (xs.eraseIdx k).map f
  | [], _ => rfl
  | x :: xs, 0 => rfl
  | x :: xs, k + 1 => by simp [erase_map f xs k]
theorem len_ref {S : Sto} {k : Nat} {xs : List D} (h : S[k]? = some (.lst xs)) : gLen S [.ref k] = some (.int (xs.length : Int)) := by
  unfold gLen
  dsimp only
  rw [vw_ref h]
theorem popAt_perm {S : Sto} {r : Nat} {xs : List Str} {v : Int} (h : S[r]? = some (.lst (xs.map D.str))) (h0 : 0 ≤ v) (h1 : v < (xs.length : Int)) (h2 : xs.length ≤ 1000) : ∃ (y : Str) (xs' : List Str), stPopAt S (.ref r) [.int v] = some (.str y, S.set r (.lst (xs'.map D.str))) ∧ xs.Perm (y :: xs') := by
  have hv : v.toNat < xs.length := by omega
  refine ⟨xs[v.toNat], xs.eraseIdx v.toNat, ?_, ?_⟩
  · unfold stPopAt
    dsimp only
    rw [h]
    dsimp only
    rw [if_pos ⟨by omega, by omega⟩]
    have e : seqIndex? v (xs.map D.str).length = some v.toNat := by
      unfold seqIndex?
      rw [List.length_map]
      simp only [if_neg (show ¬ v < 0 by omega)]
      rw [if_pos (by simp; omega)]
    rw [e]
    show (((xs.map D.str)[v.toNat]?).map _) = _
    rw [List.getElem?_map, List.getElem?_eq_getElem hv, erase_map]
    rfl
  · have key : ∀ (l : List Str) (k : Nat) (hk : k < l.length), l.Perm (l[k] :: l.eraseIdx k) := by
      intro l
      induction l with
      | nil => intro k hk; simp at hk
      | cons x l ih =>
        intro k hk
        cases k with
        | zero => exact .refl _
        | succ k =>
          have hk' : k < l.length := by simpa using hk
          show (x :: l).Perm (l[k] :: x :: l.eraseIdx k)
          exact ((ih k hk').cons x).trans (.swap _ _ _)
    exact key xs v.toNat hv
theorem rise_sorted {ys : List Str} (h : ys.Nodup) : (ys.mergeSort sle).Pairwise fun a b => slt a b = true := by
  have hn : (ys.mergeSort sle).Nodup := (List.mergeSort_perm ys sle).nodup_iff.mpr h
  have hp : (ys.mergeSort sle).Pairwise fun a b => sle a b = true := List.pairwise_mergeSort (le := sle) (fun a b c h1 h2 => by
    unfold sle at *
    exact decide_eq_true (List.le_trans (of_decide_eq_true h1) (of_decide_eq_true h2))) (fun a b => by
    unfold sle
    rw [Bool.or_eq_true]
    exact (List.le_total (tl a) (tl b)).imp decide_eq_true decide_eq_true) _
  refine (List.pairwise_and_iff.mpr ⟨hp, hn⟩).imp fun {a b} q => ?_
  cases z : slt a b with
  | true => rfl
  | false =>
    have hb : slt b a = true := by
      rw [slt_tri (Ne.symm q.2), z]; rfl
    have q1 := q.1
    unfold sle at q1
    exact absurd (of_decide_eq_true q1) (List.not_le.mpr (of_decide_eq_true hb))
theorem len_app' (x y : Str) : (x ++ y).length = x.length + y.length := by rw [len_tl, tl_append, List.length_append, ← len_tl, ← len_tl]
theorem range_ok {t : LA} {ρ : Ev} {S S1 : Sto} {j : Int} (h : t ρ S = .ok [.int j] S1) (h0 : 0 ≤ j) (h1 : j < 1000000) : lRange1 t ρ S = .ok ⟨(List.range j.toNat).map fun (i : Nat) => .int (i : Int), fun _ => True⟩ S1 := by
  unfold lRange1
  rw [h, bind_ok]
  show (if -(2 ^ 62) ≤ j ∧ j < 2 ^ 62 then _ else _) = _
  rw [if_pos ⟨by omega, by omega⟩]
theorem slS {S : Sto} {z : Str} {lo hi : Option Int} (h : z.length ≤ 100000) : gSlice S (.str z) lo hi = some (.str (cutS z lo hi)) := by
  show (if z.length ≤ sizeLine then some (D.str (cutS z lo hi)) else none) = _
  rw [if_pos (sz h)]
theorem sIx_pos {n d : Nat} {v : Int} (h : 0 ≤ v) : HT.sIx n d (some v) = min v.toNat n := by
  unfold HT.sIx
  dsimp only
  rw [if_neg (by omega)]
theorem tl_take (z : Str) {v : Int} (h : 0 ≤ v) : tl (cutS z none (some v)) = (tl z).take v.toNat := by
  show ((tl z).drop (HT.sIx (tl z).length 0 none)).take (HT.sIx (tl z).length (tl z).length (some v) - HT.sIx (tl z).length 0 none) = _
  rw [sIx_pos h, HT.sIx_none, List.drop_zero, Nat.sub_zero, List.take_eq_take_iff]
  omega
theorem tl_drop (z : Str) {v : Int} (h : 0 ≤ v) : tl (cutS z (some v) none) = (tl z).drop v.toNat := by
  show ((tl z).drop (HT.sIx (tl z).length 0 (some v))).take (HT.sIx (tl z).length (tl z).length none - HT.sIx (tl z).length 0 (some v)) = _
  rw [sIx_pos h, HT.sIx_none, List.take_of_length_le (by rw [List.length_drop]; exact Nat.le_refl _)]
  by_cases q : v.toNat ≤ (tl z).length
  · rw [Nat.min_eq_left q]
  · rw [Nat.min_eq_right (by omega), List.drop_of_length_le (Nat.le_refl _), List.drop_of_length_le (by omega)]
theorem ln_take {z : Str} {v : Int} (h0 : 0 ≤ v) : (cutS z none (some v)).length = min v.toNat z.length := by rw [len_tl, tl_take z h0, List.length_take, ← len_tl]
theorem ln_drop {z : Str} {v : Int} (h0 : 0 ≤ v) : (cutS z (some v) none).length = z.length - v.toNat := by rw [len_tl, tl_drop z h0, List.length_drop, ← len_tl]
theorem sorted_of {a l : List Str} (hp : a.Perm l) (ha : a.Pairwise fun x y => slt x y = true) : l.mergeSort sle = a := by
  refine (PySem.W.Srt.the_of_perm sle (fun a b c h1 h2 => decide_eq_true (List.le_trans (of_decide_eq_true h1) (of_decide_eq_true h2))) (fun a b => ?_) (fun a b h1 h2 => ext_tl (List.le_antisymm (of_decide_eq_true h1) (of_decide_eq_true h2))) hp (ha.imp fun {a b} q => ?_)).symm
  · rw [Bool.or_eq_true]
    exact (List.le_total (tl a) (tl b)).imp decide_eq_true decide_eq_true
  · exact decide_eq_true (List.not_lt.mp (List.lt_asymm (of_decide_eq_true q)))
theorem sort_rise {ms : List Pr} (h : (givs ms).Nodup) : (givs (ms.mergeSort leP)).Pairwise fun a b => slt a b = true := by
  have hpm := List.mergeSort_perm ms leP
  have hp : (ms.mergeSort leP).Pairwise fun a b => leP a b = true := List.pairwise_mergeSort (le := leP) leP_trans leP_total _
  have hn : (givs (ms.mergeSort leP)).Nodup := (hpm.map (fun p : Pr => p.1)).nodup_iff.mpr h
  unfold givs at hn ⊢
  rw [List.pairwise_map]
  have hn' : (ms.mergeSort leP).Pairwise fun a b => a.1 ≠ b.1 := List.pairwise_map.mp hn
  refine (List.pairwise_and_iff.mpr ⟨hp, hn'⟩).imp fun {a b} q => ?_
  rcases leP_iff.mp q.1 with e | z
  · exact absurd (congrArg Prod.fst e) q.2
  · rcases ltP_iff.mp z with ⟨_, z2⟩ | ⟨z1, _⟩
    · exact decide_eq_true z2
    · exact absurd z1 q.2
theorem srt_ps (ks : List Pr) (h : ks.length ≤ 1000) : srtOk (psD ks) = true := by
  unfold srtOk
  simp only [Bool.and_eq_true, List.all_eq_true, decide_eq_true_eq, Bool.or_eq_true]
  refine ⟨⟨⟨⟨fun x hx => ?_, fun x hx y hy => ?_⟩, .inl fun x hx => ?_⟩, fun x hx => ?_⟩, by rw [psD_len]; exact sz (by omega)⟩
  all_goals obtain ⟨a, _, rfl⟩ := List.mem_map.mp hx
  · rfl
  · obtain ⟨b, _, rfl⟩ := List.mem_map.mp hy
    rfl
  · rfl
  · simp [MP.encD, toPD, toPDs, pD, PyData.depth, PyData.depthAll]
theorem leD_pD (p q : Pr) : leD (pD p) (pD q) = leP p q := congrFun (congrFun le_encP p) q
theorem sort_ps (ks : List Pr) : (psD ks).mergeSort leD = psD (ks.mergeSort leP) := by
  have e := List.map_mergeSort (r := leP) (s := leD) (f := pD) (l := ks) (fun a _ b _ => (leD_pD a b).symm)
  exact e.symm
theorem zip_lst (xs ys : List Str) : zipD (xs.map D.str) (ys.map D.str) = psD (xs.zip ys) := by
  unfold zipD psD
  induction xs generalizing ys with
  | nil => rfl
  | cons x xs ih =>
    cases ys with
    | nil => rfl
    | cons y ys =>
      rw [List.map_cons, List.map_cons, List.zipWith_cons_cons, List.zip_cons_cons, List.map_cons, ih]
      rfl
theorem cutS_drop (xs : List D) (k : Int) (h : 0 ≤ k) : MP.cutD xs (some k) none = xs.drop k.toNat := by
  unfold MP.cutD
  rw [sIx_pos h, HT.sIx_none, List.take_of_length_le (by rw [List.length_drop]; exact Nat.le_refl _)]
  by_cases q : k.toNat ≤ xs.length
  · rw [Nat.min_eq_left q]
  · rw [Nat.min_eq_right (by omega), List.drop_of_length_le (Nat.le_refl _), List.drop_of_length_le (by omega)]
theorem cutS_take (xs : List D) (k : Int) (h : 0 ≤ k) : MP.cutD xs none (some k) = xs.take k.toNat := by
  unfold MP.cutD
  rw [sIx_pos h, HT.sIx_none, List.drop_zero, Nat.sub_zero, List.take_eq_take_iff]
  omega
theorem ring_pairs (os : List Str) : givs (os.zip (os.drop 1 ++ os.take 1)) = os ∧ (taks (os.zip (os.drop 1 ++ os.take 1))).Perm os := by
  have hl : (os.drop 1 ++ os.take 1).length = os.length := by
    rw [List.length_append, List.length_drop, List.length_take]
    omega
  constructor
  · unfold givs
    exact List.map_fst_zip (by omega)
  · unfold taks
    have e : List.map (fun p : Pr => p.2) (os.zip (os.drop 1 ++ os.take 1)) = os.drop 1 ++ os.take 1 := List.map_snd_zip (by omega)
    rw [e]
    have := List.take_append_drop 1 os
    exact List.perm_append_comm.trans (by rw [this])
def Ls (m : Nat) (x : Str) : Prop := x.length ≤ m ∧ (tl x).all isL = true
theorem nm_of {x : Str} (h : Ls 12 x) (h1 : 1 ≤ x.length) : nm x = true := by
  unfold nm
  rw [decide_eq_true ⟨h1, h.1⟩, h.2]
  rfl
def sgn (a : Nat) (x : Str) : Option Nat := (tl x)[a]?
theorem lx0 {j : Nat} {xs : List D} {S : Sto} {k : Int} {d : D} {ρ : Ev} (h : S[j]? = some (.lst xs)) (hd : atI xs k = some d) (hv : lVar 0 ρ S = .ok (.ref j) S) : lBin gIx (lVar 0) (lC (.int k)) ρ S = .ok d S := bin_ok hv rfl (ix_ref h hd)
theorem mulx_ii {S : Sto} {i j : Int} (h : Sm i) (h' : Sm j) : gMulX S (.int i) (.int j) = some (.int (i * j)) := by
  unfold gMulX
  rw [mul_ii h h']
  rfl
/-! ### the draws -/
/-- 10 ** 900 -/
def bigN : Int := ((10 ^ 900 : Nat) : Int)
theorem bigN_pos : 0 < bigN := Int.natCast_pos.mpr (Nat.pow_pos (by decide))
theorem bigN_log {x : Int} (h0 : 0 ≤ x) (h1 : x < bigN) : x.natAbs.log2 < 3000 := by
  refine lg_lt ?_ (by decide)
  have h2 : x.natAbs < 10 ^ 900 := by
    have : (x.natAbs : Int) = x := Int.natAbs_of_nonneg h0
    unfold bigN at h1
    omega
  exact Nat.lt_trans h2 (by decide +kernel)
def Pot (o : O) : Prop := ∃ g m : Int, o = .lst [.int g, .int m] ∧ 0 ≤ g ∧ g < bigN ∧ 0 ≤ m ∧ m < 2305843009213693951
def PotAt (j : Nat) (S : Sto) : Prop := ∃ o, S[j]? = some o ∧ Pot o
theorem PotAt.lt {j : Nat} {S : Sto} (h : PotAt j S) : j < S.length := by
  obtain ⟨o, h, _⟩ := h
  exact (List.getElem?_eq_some_iff.mp h).1
theorem PotAt.set {j : Nat} {S : Sto} {o : O} (h : PotAt j S) (ho : Pot o) : PotAt j (S.set j o) := ⟨o, List.getElem?_set_self h.lt, ho⟩
def SPot (g : F) : Prop := ∀ (S : Sto) (ns : List Int) (k : Nat), ns.length ≤ 63 → k ≤ 100 → ∃ o, Pot o ∧ g [.lst (ns.map D.int), .int (k : Int)] S = .ok (.ref S.length) (S ++ [o])
def STake (g : F) : Prop := ∀ (S : Sto) (j : Nat) (up : Int), PotAt j S → 0 < up → up < 10 ^ 200 → ∃ v o, g [.ref j, .int up] S = .ok (.int v) (S.set j o) ∧ 0 ≤ v ∧ v < up ∧ Pot o
theorem fold_rep : ∀ (n : Nat) (acc : Array Nat), ((List.replicate n #[48]).foldl (· ++ ·) acc).toList = acc.toList ++ List.replicate n 48
  | 0, acc => by simp
  | n + 1, acc => by
    rw [List.replicate_succ, List.foldl_cons, fold_rep n, Array.toList_append, List.append_assoc]
    rfl
theorem rep_tl : tl (strRep "0" 900) = List.replicate 900 48 := by
  unfold strRep
  rw [if_neg (by decide), if_neg (by decide)]
  show ((List.replicate (900 : Int).toNat ("0" : Str).cps).foldl (· ++ ·) #[]).toList = _
  rw [show ("0" : Str).cps = #[48] by decide, fold_rep]
  rfl
theorem rep_len : (strRep "0" 900).length = 900 := by rw [len_tl, rep_tl, List.length_replicate]
theorem big_eq : ("1" : Str) ++ strRep "0" 900 = PySem.W.bigS := by
  refine ext_tl ?_
  rw [tl_append, rep_tl]
  exact PySem.W.big_list.symm
section
variable {P : Program} {w : World} {K : PySem.W.Frag} {mg : Str → Option Value} {base : Heap}
theorem ok_pot (T : T46 K mg) : ∃ g, FnL P w K mg base 1 T.f__law_pot T.fd__law_pot ["_law_script", "_law_k"] g ∧ SPot g := by
  refine ⟨_, Fun.okL T.F__law_pot sc__law_pot fun cdv A outer s H E hr =>
(pssl_cons (psl_set (i := 2) sc__law_pot.nd (pel_op opl_add2 (pel_op opl_mulX pel_int (pel_var (i := 1))) (pel_callB (cl_len) rfl T.n_len (by decide +kernel) (pal_cons (pel_var (i := 0)) pal_nil))))
  (pssl_cons (psl_if (ptl_cmp (opl_lt2 hr.units) (pel_var (i := 1)) (pel_callB (cl_len) rfl T.n_len (by decide +kernel) (pal_cons (pel_var (i := 0)) pal_nil))) (pssl_one (psl_set (i := 2) sc__law_pot.nd (pel_ix ixl_seq (pel_var (i := 0)) (pel_var (i := 1))))) pssl_nil)
  (pssl_cons (psl_set (i := 3) sc__law_pot.nd (pel_op opl_mulX (pel_op opl_mod (pel_callB (cl_abs) rfl T.n_abs (by decide +kernel) (pal_cons (pel_var (i := 2)) pal_nil)) (pel_callTy (cl_intBig T.nd) rfl T.n_int (by decide +kernel) (pal_cons (pel_op opl_add2 pel_str (pel_op opl_mulS pel_str pel_int)) pal_nil))) (pel_callTy (cl_int1) rfl T.n_int (by decide +kernel) (pal_cons (pel_cmp opl_geI (pel_callB (cl_abs) rfl T.n_abs (by decide +kernel) (pal_cons (pel_var (i := 2)) pal_nil)) (pel_op opl_pow pel_int pel_int)) pal_nil))))
  (pssl_one (psl_ret (pel_lstN (pal_cons (pel_var (i := 3)) (pal_cons (pel_op opl_mod (pel_op opl_mulX (pel_op opl_add2 (pel_op opl_add2 (pel_op opl_mod (pel_var (i := 2)) pel_int) (pel_op opl_mulX (pel_op opl_mulX pel_int (pel_var (i := 1))) (pel_var (i := 1)))) pel_int) pel_int) pel_int) pal_nil)))))))), ?_⟩
  intro S ns k hn hk
  have bb := bigN_pos
  have hlen : gLen S [.lst (ns.map D.int)] = some (.int (ns.length : Int)) := by
    show some (D.int ((ns.map D.int).length : Int)) = _
    rw [List.length_map]
  have sk : Sm (k : Int) := sml (by omega) (Int.lt_of_le_of_lt (show (k : Int) ≤ 100 by omega) (by decide +kernel))
  have g1 := set_ok (i := 2) (S := S) (ρ := [some (.lst (ns.map D.int)), some (.int (k : Int)), none, none]) (bin_ok (bin_ok (la := lC (.int 3)) (lb := lVar 1) rfl rfl (mulx_ii (sml (by decide) (by decide +kernel)) sk)) (callb_ok (acons_ok (l := lVar 0) (t := aNil) rfl rfl) hlen) add2_ii)
  have key : ∃ c : Int, lIfS (tTru (lBin gLt2 (lVar 1) (lCallB gLen (aCons (lVar 0) aNil)))) (lSet 2 (lBin gIx (lVar 0) (lVar 1))) lNext [some (.lst (ns.map D.int)), some (.int (k : Int)), some (.int (3 * (k : Int) + (ns.length : Int))), none] S = .ok (.nx [some (.lst (ns.map D.int)), some (.int (k : Int)), some (.int c), none]) S := by
    by_cases hc : (k : Int) < (ns.length : Int)
    · have hk' : k < ns.length := by omega
      refine ⟨ns[k], if_tt (tru_b (bin_ok rfl (callb_ok (acons_ok rfl rfl) hlen) rfl) (decide_eq_true hc)) (set_ok (bin_ok rfl rfl ?_))⟩
      show (ixN (ns.map D.int).length (k : Int)).bind _ = _
      unfold ixN
      rw [if_pos (by omega), if_pos (by rw [List.length_map]; omega)]
      show (ns.map D.int)[(k : Int).toNat]? = _
      rw [List.getElem?_map, Int.toNat_natCast, List.getElem?_eq_getElem hk']
      rfl
    · exact ⟨_, if_ff (tru_b (bin_ok rfl (callb_ok (acons_ok rfl rfl) hlen) rfl) (decide_eq_false hc)) rfl⟩
  obtain ⟨c, g2⟩ := key
  obtain ⟨a, ha⟩ : ∃ a : Int, a = if c < 0 then -c else c := ⟨_, rfl⟩
  have habs : ∀ ρ : Ev, ρ[2]? = some (some (.int c)) → lCallB gAbs (aCons (lVar 2) aNil) ρ S = .ok (.int a) S := fun ρ h => callb_ok (acons_ok (show lVar 2 ρ S = .ok (.int c) S by unfold lVar; rw [h]) rfl) (by rw [ha]; rfl)
  have r0 := Int.emod_nonneg a (b := bigN) (by omega)
  have r1 := Int.emod_lt_of_pos a bb
  have hbig : ∀ ρ : Ev, lCallB gIntBig (aCons (lBin gAdd2 (lC (.str "1")) (lBin gMulS (lC (.str "0")) (lC (.int 900)))) aNil) ρ S = .ok (.int bigN) S := fun ρ => by
    have h1 : gMulS S (.str "0") (.int 900) = some (.str (strRep "0" 900)) := by
      unfold gMulS
      dsimp only [vw]
      exact if_pos ⟨by decide, by decide, by decide, by rw [rep_len, sizeLine_eq]; decide⟩
    have h2 : gAdd2 S (.str "1") (.str (strRep "0" 900)) = some (.str (("1" : Str) ++ strRep "0" 900)) := add2_ss (by rw [rep_len, sizeLine_eq]; decide)
    rw [big_eq] at h2
    have h3 : gIntBig S [.str PySem.W.bigS] = some (.int bigN) := by
      unfold gIntBig bigN
      exact if_pos rfl
    exact callb_ok (acons_ok (bin_ok rfl (bin_ok rfl rfl h1) h2) rfl) h3
  obtain ⟨b, hb⟩ : ∃ b : Bool, b = decide ((10 : Int) ^ (18 : Int).toNat ≤ a) := ⟨_, rfl⟩
  have hge : ∀ ρ : Ev, ρ[2]? = some (some (.int c)) → lCallB gInt1 (aCons (lBin gGeI (lCallB gAbs (aCons (lVar 2) aNil)) (lBin gPow (lC (.int 10)) (lC (.int 18)))) aNil) ρ S = .ok (.int (if b = true then 1 else 0)) S := fun ρ h =>
    callb_ok (acons_ok (d := .bl b) (bin_ok (habs ρ h) (bin_ok rfl rfl (pow_ii ⟨by decide, by decide, by decide⟩)) (show some (D.bl (decide ((10 : Int) ^ (18 : Int).toNat ≤ a))) = _ by rw [hb])) rfl) rfl
  have hg : (0 : Int) ≤ a % bigN * (if b = true then 1 else 0) ∧ a % bigN * (if b = true then 1 else 0) < bigN := by
    cases b
    · simp; exact bb
    · simp; exact ⟨r0, r1⟩
  have hmul : gMulX S (.int (a % bigN)) (.int (if b = true then 1 else 0)) = some (.int (a % bigN * (if b = true then 1 else 0))) := by
    have h1 := bigN_log r0 r1
    have h2 : (if b = true then (1 : Int) else 0).natAbs.log2 < 3000 := by cases b <;> decide
    unfold gMulX
    have : gMulI S (.int (a % bigN)) (.int (if b = true then 1 else 0)) = some (.int (a % bigN * (if b = true then 1 else 0))) := by
      show (if (a % bigN).natAbs.log2 + (if b = true then (1 : Int) else 0).natAbs.log2 < 1000000 then some (D.int _) else none) = _
      rw [if_pos (by omega)]
    rw [this]
    rfl
  have g3 := set_ok (i := 3) (S := S) (ρ := [some (.lst (ns.map D.int)), some (.int (k : Int)), some (.int c), none]) (bin_ok (bin_ok (habs _ rfl) (hbig _) (mod_ii bb)) (hge _ rfl) hmul)
  generalize a % bigN * (if b = true then (1 : Int) else 0) = gr at g3 hg
  have m0 := Int.emod_nonneg c (b := 2305843009213693951) (by decide)
  have m1 := Int.emod_lt_of_pos c (b := 2305843009213693951) (by decide)
  have k2 : (0 : Int) ≤ 7919 * (k : Int) * (k : Int) := Int.mul_nonneg (by omega) (by omega)
  have k3 : 7919 * (k : Int) * (k : Int) ≤ 7919 * 100 * 100 := Int.le_trans (Int.mul_le_mul_of_nonneg_right (show 7919 * (k : Int) ≤ 7919 * 100 by omega) (by omega)) (Int.mul_le_mul_of_nonneg_left (show (k : Int) ≤ 100 by omega) (by omega))
  have hmix : lBin gMod (lBin gMulX (lBin gAdd2 (lBin gAdd2 (lBin gMod (lVar 2) (lC (.int 2305843009213693951))) (lBin gMulX (lBin gMulX (lC (.int 7919)) (lVar 1)) (lVar 1))) (lC (.int 11))) (lC (.int 48271))) (lC (.int 2305843009213693951)) [some (.lst (ns.map D.int)), some (.int (k : Int)), some (.int c), some (.int gr)] S = .ok (.int ((c % 2305843009213693951 + 7919 * (k : Int) * (k : Int) + 11) * 48271 % 2305843009213693951)) S := by
    refine bin_ok (bin_ok (bin_ok (bin_ok (bin_ok rfl rfl (mod_ii (by decide))) (bin_ok (bin_ok rfl rfl (mulx_ii (sml (by decide) (by decide +kernel)) sk)) rfl (mulx_ii (sml (by omega) (by omega)) sk)) add2_ii) rfl add2_ii) rfl (mulx_ii (sml (by omega) (by omega)) (sml (by decide) (by decide +kernel)))) rfl (mod_ii (by decide))
  have v0 := Int.emod_nonneg ((c % 2305843009213693951 + 7919 * (k : Int) * (k : Int) + 11) * 48271) (b := 2305843009213693951) (by decide)
  have v1 := Int.emod_lt_of_pos ((c % 2305843009213693951 + 7919 * (k : Int) * (k : Int) + 11) * 48271) (b := 2305843009213693951) (by decide)
  exact ⟨_, ⟨gr, _, rfl, hg.1, hg.2, v0, v1⟩, body_rt (seq_nx g1 (seq_nx g2 (seq_nx g3 (ret_ok (lstN_ok (acons_ok rfl (acons_ok hmix rfl)) (by simp))))))⟩
theorem ok_take (T : T46 K mg) : ∃ g, FnL P w K mg base 1 T.f__law_take T.fd__law_take ["_law_pot_here", "_law_upto"] g ∧ STake g := by
  refine ⟨_, Fun.okL T.F__law_take sc__law_take fun cdv A outer s H E hr =>
(pssl_cons (psl_if (ptl_cmp opl_gt2 (pel_ix ixl_seq (pel_var (i := 0)) pel_int) pel_int) (pssl_cons (psl_set (i := 2) sc__law_take.nd (pel_op opl_mod (pel_ix ixl_seq (pel_var (i := 0)) pel_int) (pel_var (i := 1))))
  (pssl_cons (psl_sub psetl_seq (pel_var (i := 0)) pel_int (pel_op opl_div (pel_ix ixl_seq (pel_var (i := 0)) pel_int) (pel_var (i := 1))))
  (pssl_one (psl_ret (pel_var (i := 2)))))) pssl_nil)
  (pssl_cons (psl_sub psetl_seq (pel_var (i := 0)) pel_int (pel_op opl_mod (pel_op opl_add2 (pel_op opl_mulX (pel_ix ixl_seq (pel_var (i := 0)) pel_int) pel_int) pel_int) pel_int))
  (pssl_one (psl_ret (pel_op opl_mod (pel_op opl_div (pel_op opl_mod (pel_op opl_mulX (pel_op opl_div (pel_ix ixl_seq (pel_var (i := 0)) pel_int) pel_int) (pel_op opl_add2 (pel_op opl_mod (pel_ix ixl_seq (pel_var (i := 0)) pel_int) pel_int) pel_int)) pel_int) pel_int) (pel_var (i := 1))))))), ?_⟩
  intro S j up hp u0 u1
  obtain ⟨o, hj, g, m, rfl, g0, g1, m0, m1⟩ := hp
  have smu : Sm up := Sm.of (by omega) u1 (by decide +kernel)
  have hv : ∀ ρ : Ev, ρ[0]? = some (some (.ref j)) → ∀ S, lVar 0 ρ S = .ok (.ref j) S := fun ρ h S => by unfold lVar; rw [h]
  by_cases hg : 0 < g
  · have t1 : tTru (lBin gGt2 (lBin gIx (lVar 0) (lC (.int 0))) (lC (.int 0))) [some (.ref j), some (.int up), none] S = .ok true S := tru_b (bin_ok (lx0 hj rfl (hv _ rfl _)) rfl rfl) (decide_eq_true hg)
    have q1 := set_ok (i := 2) (S := S) (ρ := [some (.ref j), some (.int up), none]) (bin_ok (lx0 (k := 0) hj rfl (hv _ rfl _)) (lb := lVar 1) rfl (mod_ii u0))
    have q2 := stS_ok (lo := lVar 0) (li := lC (.int 0)) (ρ := [some (.ref j), some (.int up), some (.int (g % up))]) (bin_ok (lx0 (k := 0) hj rfl (hv _ rfl _)) (lb := lVar 1) rfl (div_ii u0 smu)) rfl rfl (sub_ok (n := 0) (d := .int (g / up)) hj rfl)
    have d0 : 0 ≤ g / up := Int.ediv_nonneg (by omega) (by omega)
    have d1 : g / up ≤ g := Int.ediv_le_self _ (by omega)
    exact ⟨_, _, body_rt (seq_rt (if_tt t1 (seq_nx q1 (seq_nx q2 (ret_ok rfl))))), Int.emod_nonneg _ (by omega), Int.emod_lt_of_pos _ u0, g / up, m, rfl, d0, by omega, m0, m1⟩
  · have t1 : tTru (lBin gGt2 (lBin gIx (lVar 0) (lC (.int 0))) (lC (.int 0))) [some (.ref j), some (.int up), none] S = .ok false S := tru_b (bin_ok (lx0 hj rfl (hv _ rfl _)) rfl rfl) (decide_eq_false hg)
    have q1 := stS_ok (lo := lVar 0) (li := lC (.int 1)) (ρ := [some (.ref j), some (.int up), none]) (bin_ok (bin_ok (bin_ok (lx0 (k := 1) hj rfl (hv _ rfl _)) (lb := lC (.int 1181783497276652981)) rfl (mulx_ii (sml m0 (by omega)) (sml (by decide) (by decide +kernel)))) (lb := lC (.int 12345678910987)) rfl add2_ii) (lb := lC (.int 2305843009213693951)) rfl (mod_ii (by decide))) rfl rfl (sub_ok (n := 1) (d := .int ((m * 1181783497276652981 + 12345678910987) % 2305843009213693951)) hj rfl)
    have x0 := Int.emod_nonneg (m * 1181783497276652981 + 12345678910987) (b := 2305843009213693951) (by decide)
    have x1 := Int.emod_lt_of_pos (m * 1181783497276652981 + 12345678910987) (b := 2305843009213693951) (by decide)
    generalize (m * 1181783497276652981 + 12345678910987) % 2305843009213693951 = x at q1 x0 x1
    have hj2 := set_self (o' := .lst [.int g, .int x]) hj
    have y0 := Int.emod_nonneg x (b := 65537) (by decide)
    have y1 := Int.emod_lt_of_pos x (b := 65537) (by decide)
    have z0 : 0 ≤ x / 65537 := Int.ediv_nonneg x0 (by decide)
    have z1 : x / 65537 ≤ x := Int.ediv_le_self _ x0
    have hret : lBin gMod (lBin gDiv (lBin gMod (lBin gMulX (lBin gDiv (lBin gIx (lVar 0) (lC (.int 1))) (lC (.int 65537))) (lBin gAdd2 (lBin gMod (lBin gIx (lVar 0) (lC (.int 1))) (lC (.int 65537))) (lC (.int 3)))) (lC (.int 2305843009213693921))) (lC (.int 97))) (lVar 1) [some (.ref j), some (.int up), none] (S.set j (.lst [.int g, .int x])) = .ok (.int (x / 65537 * (x % 65537 + 3) % 2305843009213693921 / 97 % up)) (S.set j (.lst [.int g, .int x])) :=
      bin_ok (bin_ok (bin_ok (bin_ok (bin_ok (lx0 hj2 rfl (hv _ rfl _)) rfl (div_ii (by decide) (sml (by decide) (by decide +kernel)))) (bin_ok (bin_ok (lx0 hj2 rfl (hv _ rfl _)) rfl (mod_ii (by decide))) rfl add2_ii) (mulx_ii (sml z0 (by omega)) (sml (by omega) (by omega)))) rfl (mod_ii (by decide))) rfl (div_ii (by decide) (sml (by decide) (by decide +kernel)))) rfl (mod_ii u0)
    exact ⟨_, _, body_rt (seq_nx (if_ff t1 rfl) (seq_nx q1 (ret_ok hret))), Int.emod_nonneg _ (by omega), Int.emod_lt_of_pos _ u0, g, x, rfl, g0, g1, x0, x1⟩
end
end K46

namespace K46
open PySem PySem.Spec PyProof.Rows L2 MP TL
open K59 (Pr nm givs taks slt isL lets nm_ok sle sorted_strs slt_tri cnt_nodup)
open K06 (riP Cd pair_rise cd_of cd_repr)
/-! ### the pot alone is otherwise -/
def PotS (j : Nat) (S S' : Sto) : Prop := ∃ o, Pot o ∧ S' = S.set j o
theorem set_same {α : Type} : ∀ {S : List α} {j : Nat} {o : α}, S[j]? = some o → S.set j o = S
  | [], _, _, h => by simp at h
  | x :: S, 0, o, h => by
    have e : x = o := by simpa using h
    rw [e]; rfl
  | x :: S, j + 1, o, h => by
    have e : S[j]? = some o := by simpa using h
    show x :: S.set j o = _
    rw [set_same e]
theorem PotS.refl {j : Nat} {S : Sto} (h : PotAt j S) : PotS j S S := by
  obtain ⟨o, h1, h2⟩ := h
  exact ⟨o, h2, (set_same h1).symm⟩
theorem PotS.trans {j : Nat} {S S1 S2 : Sto} (h : PotS j S S1) (h2 : PotS j S1 S2) : PotS j S S2 := by
  obtain ⟨o, _, rfl⟩ := h
  obtain ⟨o2, p, rfl⟩ := h2
  exact ⟨o2, p, List.set_set ..⟩
theorem PotS.at {j : Nat} {S S' : Sto} (h : PotS j S S') (hp : PotAt j S) : PotAt j S' := by
  obtain ⟨o, ho, rfl⟩ := h
  exact hp.set ho
theorem PotS.len {j : Nat} {S S' : Sto} (h : PotS j S S') : S'.length = S.length := by
  obtain ⟨o, ho, rfl⟩ := h
  rw [List.length_set]
theorem PotS.get {j k : Nat} {S S' : Sto} (h : PotS j S S') (hk : k ≠ j) : S'[k]? = S[k]? := by
  obtain ⟨o, ho, rfl⟩ := h
  exact List.getElem?_set_ne (Ne.symm hk)
theorem PotAt.app {j : Nat} {S l : Sto} (h : PotAt j S) : PotAt j (S ++ l) := by
  obtain ⟨o, h1, h2⟩ := id h
  exact ⟨o, by rw [List.getElem?_append_left h.lt]; exact h1, h2⟩
theorem PotS.app {j : Nat} {S l S' : Sto} (hp : PotAt j S) (h : PotS j (S ++ l) S') : ∃ S1, S' = S1 ++ l ∧ PotS j S S1 := by
  obtain ⟨o, ho, rfl⟩ := h
  exact ⟨S.set j o, List.set_append_left _ _ hp.lt, o, ho, rfl⟩
theorem Pot.bel {o : O} {n : Nat} (h : Pot o) : belowo n o = true := by
  obtain ⟨g, m, rfl, _⟩ := h
  rfl
theorem PotS.okd {j : Nat} {S S1 l : Sto} (h : PotS j S S1) : Okd S (S1 ++ l) := by
  obtain ⟨o, ho, rfl⟩ := h
  exact okd_set ho.bel
def STk (g : F) : Prop := ∀ (S : Sto) (j : Nat) (up : Int), PotAt j S → 0 < up → up < 1000000 → ∃ v S', g [.ref j, .int up] S = .ok (.int v) S' ∧ 0 ≤ v ∧ v < up ∧ PotS j S S'
theorem STake.tk {g : F} (h : STake g) : STk g := fun S j up hp h0 h1 => by
  obtain ⟨v, o, e, v0, v1, ho⟩ := h S j up hp h0 (Int.lt_trans h1 (by decide +kernel))
  exact ⟨v, _, e, v0, v1, o, ho, rfl⟩
/-! ### names -/
def alph : Str := "abcdefghijklmnopqrstuvwxyz"
def let_ (v : Nat) : Nat := (tl alph).getD v 0
theorem let_l : ∀ v, v < 26 → isL (let_ v) = true := by decide
theorem let_inj : ∀ v, v < 26 → ∀ u, u < 26 → let_ v = let_ u → v = u := by decide
theorem ix_alph {S : Sto} {v : Int} (h0 : 0 ≤ v) (h1 : v < 26) : gIx S (.str alph) (.int v) = some (.str ⟨#[let_ v.toNat]⟩) := by
  have hv : v.toNat < (tl alph).length := by rw [show (tl alph).length = 26 by decide]; omega
  unfold gIx
  dsimp only [vw]
  rw [if_pos (show alph.length ≤ sizeLine from sz (by decide))]
  unfold atI ixN
  rw [if_pos h0, if_pos (show v < ((alph.cps.toList.length : Nat) : Int) by rw [show alph.cps.toList.length = 26 by decide]; exact h1)]
  show ((tl alph)[v.toNat]?).map _ = _
  rw [List.getElem?_eq_getElem hv]
  unfold let_
  rw [List.getD_eq_getElem?_getD, List.getElem?_eq_getElem hv]
  rfl
theorem one_len (c : Nat) : (⟨#[c]⟩ : Str).length = 1 := rfl
theorem one_tl (c : Nat) : tl (⟨#[c]⟩ : Str) = [c] := rfl
/-- a stem with a letter put in -/
def wrd (z : Str) (at_ first step : Int) (k : Nat) : Str := cutS z none (some at_) ++ ⟨#[let_ ((first + step * (k : Int)) % 26).toNat]⟩ ++ cutS z (some at_) none
theorem wrd_tl {z : Str} {a f s : Int} {k : Nat} (ha : 0 ≤ a) : tl (wrd z a f s k) = (tl z).take a.toNat ++ [let_ ((f + s * (k : Int)) % 26).toNat] ++ (tl z).drop a.toNat := by
  unfold wrd
  rw [tl_append, tl_append, tl_take z ha, tl_drop z ha, one_tl]
theorem wrd_nm {z : Str} {a f s : Int} {k : Nat} (hz : Ls 11 z) (ha : 0 ≤ a) : nm (wrd z a f s k) = true := by
  have hl : (wrd z a f s k).length ≤ 12 ∧ 1 ≤ (wrd z a f s k).length := by
    rw [len_tl, wrd_tl ha]
    have := hz.1
    rw [len_tl] at this
    simp only [List.length_append, List.length_take, List.length_drop, List.length_singleton]
    omega
  refine nm_of ⟨hl.1, ?_⟩ hl.2
  rw [wrd_tl ha]
  simp only [List.all_append, List.all_cons, List.all_nil, Bool.and_true, Bool.and_eq_true]
  have hm := Int.emod_nonneg (f + s * (k : Int)) (b := 26) (by decide)
  have hm2 := Int.emod_lt_of_pos (f + s * (k : Int)) (b := 26) (by decide)
  exact ⟨⟨List.all_eq_true.mpr fun c hc => List.all_eq_true.mp hz.2 c (List.mem_of_mem_take hc), let_l _ (by omega)⟩, List.all_eq_true.mpr fun c hc => List.all_eq_true.mp hz.2 c (List.mem_of_mem_drop hc)⟩
theorem wrd_sgn {z : Str} {a f s : Int} {k : Nat} (ha : 0 ≤ a) (hl : a.toNat ≤ (tl z).length) : sgn a.toNat (wrd z a f s k) = some (let_ ((f + s * (k : Int)) % 26).toNat) := by
  unfold sgn
  rw [wrd_tl ha, List.append_assoc, List.getElem?_append_right (by rw [List.length_take]; omega)]
  have e : a.toNat - (List.take a.toNat (tl z)).length = 0 := by rw [List.length_take]; omega
  rw [e]
  rfl
def steps : List Int := [1, 3, 5, 7, 9, 11, 15, 17]
theorem step_inj {f s : Int} (hs : s ∈ steps) {i k : Nat} (hi : i < 26) (hk : k < 26) (e : (f + s * (i : Int)) % 26 = (f + s * (k : Int)) % 26) : i = k := by
  simp only [steps, List.mem_cons, List.not_mem_nil, or_false] at hs
  rcases hs with rfl | rfl | rfl | rfl | rfl | rfl | rfl | rfl <;> omega
theorem wrds_nd {z : Str} {a f s : Int} (ha : 0 ≤ a) (hl : a.toNat ≤ (tl z).length) (hs : s ∈ steps) {n : Nat} (hn : n ≤ 26) : ((List.range n).map fun k => wrd z a f s k).Nodup := by
  refine List.pairwise_map.mpr (List.Pairwise.imp_of_mem (fun {i k} hi hk hne e => hne ?_) List.nodup_range)
  rw [List.mem_range] at hi hk
  have e2 := congrArg (sgn a.toNat) e
  rw [wrd_sgn ha hl, wrd_sgn ha hl] at e2
  have hm := fun k : Nat => Int.emod_nonneg (f + s * (k : Int)) (b := 26) (by decide)
  have hm2 := fun k : Nat => Int.emod_lt_of_pos (f + s * (k : Int)) (b := 26) (by decide)
  have e3 := let_inj _ (by have := hm i; have := hm2 i; omega) _ (by have := hm k; have := hm2 k; omega) (Option.some.inj e2)
  exact step_inj (f := f) hs (by omega) (by omega) (by have := hm i; have := hm k; omega)
def SNames (g : F) : Prop := ∀ (S : Sto) (j : Nat) (up : Int), PotAt j S → 0 ≤ up → up ≤ 26 → ∃ (ns : List Str) (S' : Sto), g [.ref j, .int up] S = .ok (.lst (ns.map D.str)) S' ∧ PotS j S S' ∧ ns.length = up.toNat ∧ (∀ y ∈ ns, nm y = true) ∧ ns.Pairwise fun a b => slt a b = true
section
variable {P : Program} {w : World} {K : PySem.W.Frag} {mg : Str → Option Value} {base : Heap}
theorem ok_names (T : T46 K mg) : ∃ g, FnL P w K mg base 2 T.f__law_names T.fd__law_names ["_law_pot_here", "_law_upto"] g ∧ SNames g := by
  obtain ⟨gt, Fn__law_take, St0⟩ := ok_take (P := P) (w := w) (base := base) T
  have St := St0.tk
  refine ⟨_, Fun.okL T.F__law_names sc__law_names fun cdv A outer s H E hr =>
(pssl_cons (psl_asg (pel_tup (pal_cons pel_str (pal_cons pel_str pal_nil))) (pgl_tup (n := 2) rfl (pgsl_cons (pgl_name (i := 2) sc__law_names.nd) (pgsl_cons (pgl_name (i := 3) sc__law_names.nd) pgsl_nil))))
  (pssl_cons (psl_for (passes_of rfl) rfl (pil_range1 rfl T.n_range (pal_cons (pel_call Fn__law_take (hr.mono (by decide)) rfl T.mg__law_take T.F__law_take.kp T.b__law_take dfl_nil (pal_cons (pel_var (i := 0)) (pal_cons pel_int pal_nil))) pal_nil)) (pgl_name (i := 4) sc__law_names.nd) (pssl_one (psl_set (i := 3) sc__law_names.nd (pel_op opl_add2 (pel_var (i := 3)) (pel_ix ixl_seq (pel_var (i := 2)) (pel_call Fn__law_take (hr.mono (by decide)) rfl T.mg__law_take T.F__law_take.kp T.b__law_take dfl_nil (pal_cons (pel_var (i := 0)) (pal_cons pel_int pal_nil))))))))
  (pssl_cons (psl_asg (pel_tup (pal_cons (pel_call Fn__law_take (hr.mono (by decide)) rfl T.mg__law_take T.F__law_take.kp T.b__law_take dfl_nil (pal_cons (pel_var (i := 0)) (pal_cons (pel_op opl_add2 (pel_callB (cl_len) rfl T.n_len (by decide +kernel) (pal_cons (pel_var (i := 3)) pal_nil)) pel_int) pal_nil))) (pal_cons (pel_call Fn__law_take (hr.mono (by decide)) rfl T.mg__law_take T.F__law_take.kp T.b__law_take dfl_nil (pal_cons (pel_var (i := 0)) (pal_cons pel_int pal_nil))) pal_nil))) (pgl_tup (n := 2) rfl (pgsl_cons (pgl_name (i := 5) sc__law_names.nd) (pgsl_cons (pgl_name (i := 6) sc__law_names.nd) pgsl_nil))))
  (pssl_cons (psl_set (i := 7) sc__law_names.nd (pel_ix ixl_seq (pel_lst (pal_cons pel_int (pal_cons pel_int (pal_cons pel_int (pal_cons pel_int (pal_cons pel_int (pal_cons pel_int (pal_cons pel_int (pal_cons pel_int pal_nil))))))))) (pel_call Fn__law_take (hr.mono (by decide)) rfl T.mg__law_take T.F__law_take.kp T.b__law_take dfl_nil (pal_cons (pel_var (i := 0)) (pal_cons pel_int pal_nil)))))
  (pssl_one (psl_ret (pel_callB (cl_sorted hr.units) rfl T.n_sorted (by decide +kernel) (pal_cons (pel_lc (own := [("_law_k", 4)]) rfl sc__law_names.nd (pil_range1 rfl T.n_range (pal_cons (pel_var (i := 1)) pal_nil)) (blkOk_by (N := N__law_names) (sc := defScope s__law_names) (by decide +kernel)) (fun _ _ _ _ _ => (pgl_name (i := 4) sc__law_names.nd)) (fun _ _ _ _ _ => ptsl_nil) (fun _ _ _ _ _ => (pel_op opl_add2 (pel_op opl_add2 (pel_slice sll_any (pel_var (i := 3)) pol_none (pol_some (pel_var (i := 5)))) (pel_ix ixl_seq (pel_var (i := 2)) (pel_op opl_mod (pel_op opl_add2 (pel_var (i := 6)) (pel_op opl_mulX (pel_var (i := 7)) (pel_var (i := 4)))) pel_int))) (pel_slice sll_any (pel_var (i := 3)) (pol_some (pel_var (i := 5))) pol_none)))) pal_nil)))))))), ?_⟩
  intro S j up hp u0 u1
  have hset : lAsg (gtTup 2 (gtCons (gtName 2) (gtCons (gtName 3) gtNil))) (lTup (aCons (lC (.str alph)) (aCons (lC (.str "")) aNil))) [some (.ref j), some (.int up), none, none, none, none, none, none] S = .ok (.nx [some (.ref j), some (.int up), some (.str alph), some (.str ""), none, none, none, none]) S := asg_ok (tup_ok (acons_ok rfl (acons_ok rfl rfl)) (by simp)) rfl
  -- the stem
  obtain ⟨m, S1, e1, m0, m1, p1⟩ := St S j 12 hp (by decide) (by decide)
  have go : ∀ (items : List D) (z : Str) (S : Sto), PotAt j S → (tl z).all isL = true → z.length + items.length ≤ 100 → ∃ z' S', forG [some (.ref j), some (.int up), some (.str alph), some (.str ""), none, none, none, none] (fun _ => True) (gtName 4)
      (lSet 3 (lBin gAdd2 (lVar 3) (lBin gIx (lVar 2) (lCall 2 gt [] (aCons (lVar 0) (aCons (lC (.int 26)) aNil)))))) items [some (.ref j), some (.int up), some (.str alph), some (.str z), none, none, none, none] S = .ok (.nx [some (.ref j), some (.int up), some (.str alph), some (.str z'), none, none, none, none]) S' ∧ (tl z').all isL = true ∧ z'.length = z.length + items.length ∧ PotS j S S' := by
    intro items
    induction items with
    | nil => exact fun z S hp hz hl => ⟨z, S, for_end trivial, hz, by simp, .refl hp⟩
    | cons d items ih =>
      intro z S hp hz hl
      simp only [List.length_cons] at hl
      obtain ⟨v, S2, e2, v0, v1, p2⟩ := St S j 26 hp (by decide) (by decide)
      have hz2 : (tl (z ++ ⟨#[let_ v.toNat]⟩)).all isL = true := by
        rw [tl_append, one_tl]
        simp only [List.all_append, List.all_cons, List.all_nil, Bool.and_true, Bool.and_eq_true]
        exact ⟨hz, let_l _ (by omega)⟩
      have hl2 : (z ++ (⟨#[let_ v.toNat]⟩ : Str)).length = z.length + 1 := by rw [len_app', one_len]
      obtain ⟨z', S3, e3, h3, l3, p3⟩ := ih (z ++ ⟨#[let_ v.toNat]⟩) S2 (p2.at hp) hz2 (by omega)
      exact ⟨z', S3, for_go trivial rfl (set_ok (bin_ok rfl (bin_ok rfl (call_ok (acons_ok rfl (acons_ok rfl rfl)) rfl e2) (ix_alph v0 v1)) (add2_ss (sz (by rw [one_len]; omega))))) e3, h3, by rw [l3, hl2, List.length_cons]; omega, p2.trans p3⟩
  obtain ⟨z, S2, e2, hz, lz, p2⟩ := go ((List.range m.toNat).map fun (i : Nat) => D.int (i : Int)) "" S1 (p1.at hp) rfl (by rw [List.length_map, List.length_range, show ("" : Str).length = 0 by decide]; omega)
  rw [List.length_map, List.length_range, show ("" : Str).length = 0 by decide] at lz
  have hz11 : Ls 11 z := ⟨by omega, hz⟩
  have hfor : lFor (lRange1 (aCons (lCall 2 gt [] (aCons (lVar 0) (aCons (lC (.int 12)) aNil))) aNil)) (gtName 4) (lSet 3 (lBin gAdd2 (lVar 3) (lBin gIx (lVar 2) (lCall 2 gt [] (aCons (lVar 0) (aCons (lC (.int 26)) aNil)))))) [some (.ref j), some (.int up), some (.str alph), some (.str ""), none, none, none, none] S = .ok (.nx [some (.ref j), some (.int up), some (.str alph), some (.str z), none, none, none, none]) S2 :=
    for_ok (range_ok (acons_ok (call_ok (acons_ok rfl (acons_ok rfl rfl)) rfl e1) rfl) m0 (by omega)) e2
  have pp2 := (p1.trans p2)
  -- its place, the first letter, the step
  obtain ⟨a, S3, e3, a0, a1, p3⟩ := St S2 j ((z.length : Int) + 1) (pp2.at hp) (by omega) (by omega)
  obtain ⟨f, S4, e4, f0, f1, p4⟩ := St S3 j 26 ((pp2.trans p3).at hp) (by decide) (by decide)
  have hlz : lCallB gLen (aCons (lVar 3) aNil) [some (.ref j), some (.int up), some (.str alph), some (.str z), none, none, none, none] S2 = .ok (.int (z.length : Int)) S2 := callb_ok (acons_ok rfl rfl) (len_str (by omega))
  have hasg : lAsg (gtTup 2 (gtCons (gtName 5) (gtCons (gtName 6) gtNil))) (lTup (aCons (lCall 2 gt [] (aCons (lVar 0) (aCons (lBin gAdd2 (lCallB gLen (aCons (lVar 3) aNil)) (lC (.int 1))) aNil))) (aCons (lCall 2 gt [] (aCons (lVar 0) (aCons (lC (.int 26)) aNil))) aNil))) [some (.ref j), some (.int up), some (.str alph), some (.str z), none, none, none, none] S2 = .ok (.nx [some (.ref j), some (.int up), some (.str alph), some (.str z), none, some (.int a), some (.int f), none]) S4 :=
    asg_ok (tup_ok (acons_ok (call_ok (acons_ok rfl (acons_ok (bin_ok hlz rfl add2_ii) rfl)) rfl e3) (acons_ok (call_ok (acons_ok rfl (acons_ok rfl rfl)) rfl e4) rfl)) (by simp)) rfl
  obtain ⟨v, S5, e5, v0, v1, p5⟩ := St S4 j 8 (((pp2.trans p3).trans p4).at hp) (by decide) (by decide)
  obtain ⟨st, hst, hsm, st0, st1⟩ : ∃ st : Int, gIx S5 (.lst [.int 1, .int 3, .int 5, .int 7, .int 9, .int 11, .int 15, .int 17]) (.int v) = some (.int st) ∧ st ∈ steps ∧ 0 ≤ st ∧ st ≤ 17 := by
    have h8 : v = 0 ∨ v = 1 ∨ v = 2 ∨ v = 3 ∨ v = 4 ∨ v = 5 ∨ v = 6 ∨ v = 7 := by omega
    rcases h8 with rfl | rfl | rfl | rfl | rfl | rfl | rfl | rfl <;> exact ⟨_, rfl, by decide, by decide, by decide⟩
  have hset7 : lSet 7 (lBin gIx (lLst (aCons (lC (.int 1)) (aCons (lC (.int 3)) (aCons (lC (.int 5)) (aCons (lC (.int 7)) (aCons (lC (.int 9)) (aCons (lC (.int 11)) (aCons (lC (.int 15)) (aCons (lC (.int 17)) aNil))))))))) (lCall 2 gt [] (aCons (lVar 0) (aCons (lC (.int 8)) aNil)))) [some (.ref j), some (.int up), some (.str alph), some (.str z), none, some (.int a), some (.int f), none] S4 = .ok (.nx [some (.ref j), some (.int up), some (.str alph), some (.str z), none, some (.int a), some (.int f), some (.int st)]) S5 :=
    set_ok (bin_ok (lst_ok (acons_ok rfl (acons_ok rfl (acons_ok rfl (acons_ok rfl (acons_ok rfl (acons_ok rfl (acons_ok rfl (acons_ok rfl rfl)))))))) (by simp)) (call_ok (acons_ok rfl (acons_ok rfl rfl)) rfl e5) hst)
  have pS : PotS j S S5 := ((pp2.trans p3).trans p4).trans p5
  -- the words
  have hal : a.toNat ≤ (tl z).length := by rw [← len_tl]; omega
  have hcomp : lComp (lRange1 (aCons (lVar 1) aNil)) [4] (gtName 4) tYesL (lBin gAdd2 (lBin gAdd2 (lSlice gSlice (lVar 3) oNone (oSome (lVar 5))) (lBin gIx (lVar 2) (lBin gMod (lBin gAdd2 (lVar 6) (lBin gMulX (lVar 7) (lVar 4))) (lC (.int 26))))) (lSlice gSlice (lVar 3) (oSome (lVar 5)) oNone)) [some (.ref j), some (.int up), some (.str alph), some (.str z), none, some (.int a), some (.int f), some (.int st)] S5 = .ok (.lst (((List.range up.toNat).map fun k => wrd z a f st k).map D.str)) S5 := by
    rw [List.map_map]
    refine comp_okL (range_ok (acons_ok rfl rfl) u0 (by omega)) (by rw [List.length_map, List.length_range]; omega) (comp_map (enc := fun i : Nat => D.int (i : Int)) (f := fun k => D.str (wrd z a f st k)) trivial (List.range up.toNat) fun k hk => ⟨_, rfl, ?_⟩)
    rw [List.mem_range] at hk
    have hm := Int.emod_nonneg (f + st * (k : Int)) (b := 26) (by decide)
    have hm2 := Int.emod_lt_of_pos (f + st * (k : Int)) (b := 26) (by decide)
    have sk : Sm (k : Int) := sml (by omega) (Int.lt_of_le_of_lt (show (k : Int) ≤ 100 by omega) (by decide +kernel))
    have ss : Sm st := sml st0 (Int.lt_of_le_of_lt (show st ≤ 100 by omega) (by decide +kernel))
    have l1 := ln_take (z := z) a0
    have l2 := ln_drop (z := z) a0
    exact bin_ok (bin_ok (slice_ok rfl rfl (osome_ok rfl) (slS (by omega))) (bin_ok rfl (bin_ok (bin_ok rfl (bin_ok rfl rfl (mulx_ii ss sk)) add2_ii) rfl (mod_ii (by decide))) (ix_alph hm hm2)) (add2_ss (sz (by rw [one_len]; omega)))) (slice_ok rfl (osome_ok rfl) rfl (slS (by omega))) (add2_ss (sz (by rw [len_app', one_len]; omega)))
  have hnd := wrds_nd (z := z) (f := f) a0 hal hsm (n := up.toNat) (by omega)
  have hperm := List.mergeSort_perm ((List.range up.toNat).map fun k => wrd z a f st k) sle
  refine ⟨((List.range up.toNat).map fun k => wrd z a f st k).mergeSort sle, S5, body_rt (seq_nx hset (seq_nx hfor (seq_nx hasg (seq_nx hset7 (ret_ok (callb_ok (acons_ok hcomp rfl) (sorted_strs S5 _ _ rfl (by rw [List.length_map, List.length_range]; omega)))))))), pS, by rw [hperm.length_eq, List.length_map, List.length_range], fun y hy => ?_, rise_sorted hnd⟩
  obtain ⟨k, hk, rfl⟩ := List.mem_map.mp (hperm.mem_iff.mp hy)
  exact wrd_nm hz11 a0
end
end K46

namespace K46
open PySem PySem.Spec PyProof.Rows L2 MP TL
open K06 (riP Cd cd_of cd_repr)
open K59 (Pr nm givs taks slt isL lets nm_ok sle sorted_strs cnt_nodup)
/-! ### a drawing is made -/
theorem eqvAll_strs : ∀ as bs : List Str, PyData.eqvAll (as.map PyData.str) (bs.map PyData.str) = decide (as = bs)
  | [], [] => by simp [PyData.eqvAll]
  | [], _ :: _ => by simp [PyData.eqvAll]
  | _ :: _, [] => by simp [PyData.eqvAll]
  | a :: as, b :: bs => by
    have ih := eqvAll_strs as bs
    have hb : (a == b) = decide (a = b) := by
      rw [Bool.eq_iff_iff]
      simp
    simp [PyData.eqvAll, PyData.eqv, ih, hb]
theorem eq_strs {S : Sto} {as bs : List Str} (ha : ∀ y ∈ as, PyData.strOk y = true) (hb : ∀ y ∈ bs, PyData.strOk y = true) : gEq S (.lst (as.map D.str)) (.lst (bs.map D.str)) = some (.bl (decide (as = bs))) := by
  have e1 : toPD (.lst (as.map D.str)) = some (.list (as.map PyData.str)) := by simp [toPD, K59.toPDs_str]
  have e2 : toPD (.lst (bs.map D.str)) = some (.list (bs.map PyData.str)) := by simp [toPD, K59.toPDs_str]
  have e : eqP S (.lst (as.map D.str)) (.lst (bs.map D.str)) = some (decide (as = bs)) := by
    unfold eqP
    dsimp only [vw]
    rw [e1, e2]
    show (if SeqAt.shaped (.list (as.map PyData.str)) = true ∧ SeqAt.shaped (.list (bs.map PyData.str)) = true then some (PyData.eqv (.list (as.map PyData.str)) (.list (bs.map PyData.str))) else none) = _
    rw [if_pos ⟨K59.shaped_str ha, K59.shaped_str hb⟩]
    simp [PyData.eqv, eqvAll_strs]
  unfold gEq eqD
  rw [e]
  rfl
/-- what is a drawing's pairs -/
def GoodP (ps : List Pr) : Prop := ps.length ≤ 30 ∧ (∀ p ∈ ps, nmP p) ∧ rsP ps = true ∧ (givs ps).Nodup ∧ (taks ps).mergeSort sle = givs ps
def drD (C : Addr) (ps : List Pr) : D := .obj C [("pairs", .ftup (psD ps))]
theorem cut_ftup {S : Sto} (ps : List Pr) : ∃ d, gSlice S (.ftup (psD ps)) (some 1) none = some d ∧ zipOf [.ftup (psD ps), d] = some (zipD (psD ps) (psD (ps.drop 1))) := by
  cases ps with
  | nil => exact ⟨.ftup [], rfl, rfl⟩
  | cons p ps =>
    refine ⟨.tup (psD ps), ?_, rfl⟩
    have e : gSlice S (.ftup (psD (p :: ps))) (some 1) none = if HT.sIx (psD (p :: ps)).length 0 (some 1) = 0 ∧ HT.sIx (psD (p :: ps)).length (psD (p :: ps)).length none = (psD (p :: ps)).length then some (.ftup (psD (p :: ps))) else some (.tup (MP.cutD (psD (p :: ps)) (some 1) none)) := rfl
    rw [e, if_neg (fun z => by
      have := z.1
      rw [sIx_pos (by decide), psD_len, List.length_cons] at this
      have h1 : (1 : Int).toNat = 1 := rfl
      omega), cut1]
    rfl
def SRiseF (g : F) : Prop := ∀ (S : Sto) (ps : List Pr), ps.length ≤ 1000 → g [.ftup (psD ps)] S = .ok (.bl (rsP ps)) S
def SPairsF (g : F) : Prop := ∀ (S : Sto) (ps : List Pr), GoodP ps → g [.ftup (psD ps)] S = .ok (.bl true) S
section
variable {P : Program} {w : World} {K : PySem.W.Frag} {mg : Str → Option Value} {base : Heap}
theorem ok_riseF (T : T46 K mg) : ∃ g, FnL P w K mg base 1 T.f_does_rise T.fd_does_rise ["things"] g ∧ SRiseF g := by
  refine ⟨_, Fun.okL T.F_does_rise sc_does_rise fun cdv A outer s H E hr =>
(pssl_one (psl_ret (pel_callB (cl_all rfl) rfl T.n_all (by decide +kernel) (pal_cons (pel_lc (own := [("one", 1), ("other", 2)]) rfl sc_does_rise.nd (pil_zip rfl T.n_zip (pal_cons (pel_var (i := 0)) (pal_cons (pel_slice sll_any (pel_var (i := 0)) (pol_some pel_int) pol_none) pal_nil))) (blkOk_by (N := N_does_rise) (sc := defScope s_does_rise) (by decide +kernel)) (fun _ _ _ _ _ => (pgl_tup (n := 2) rfl (pgsl_cons (pgl_name (i := 1) sc_does_rise.nd) (pgsl_cons (pgl_name (i := 2) sc_does_rise.nd) pgsl_nil)))) (fun _ _ _ _ _ => ptsl_nil) (fun _ _ _ _ _ => (pel_cmp (opl_lt2 hr.units) (pel_var (i := 1)) (pel_var (i := 2))))) pal_nil)))), ?_⟩
  intro S ps hl
  obtain ⟨d, h1, h2⟩ := cut_ftup (S := S) ps
  have hz : lZip (aCons (lVar 0) (aCons (lSlice gSlice (lVar 0) (oSome (lC (.int 1))) oNone) aNil)) [some (.ftup (psD ps)), none, none] S = .ok ⟨(ps.zip (ps.drop 1)).map fun q => D.tup [pD q.1, pD q.2], fun _ => True⟩ S :=
    zip_ok (acons_ok rfl (acons_ok (slice_ok rfl (osome_ok rfl) rfl h1) rfl)) (by rw [h2, zip_ps])
  exact body_rt (ret_ok (callb_ok (acons_ok (comp_okL hz (by simp; omega) (comp_map (f := fun q => .bl (riP q)) trivial _ fun q hq => ⟨_, rfl, bin_ok rfl rfl rfl⟩)) rfl) (all_ok riP _)))
theorem pD_in1 {p : Pr} (h : nmP p) : In1 (pD p) := ⟨rfl, fun xs e x hx => by
  have e' : xs = [.str p.1, .str p.2] := by
    injection e with e
    exact e.symm
  subst e'
  simp only [List.mem_cons, List.not_mem_nil, or_false] at hx
  have l : ∀ {y : Str}, nm y = true → y.length ≤ 100000 := fun {y} hy => by
    unfold nm at hy
    rw [Bool.and_eq_true] at hy
    have := (of_decide_eq_true hy.1).2
    omega
  rcases hx with rfl | rfl
  · exact decide_eq_true (l h.1)
  · exact decide_eq_true (l h.2)⟩
theorem ok_pairsF (T : T46 K mg) : ∃ g, FnL P w K mg base 3 T.f_are_pairs T.fd_are_pairs ["thing"] g ∧ SPairsF g := by
  obtain ⟨gp, Fn_is_pair, Sp⟩ := ok_pair (P := P) (w := w) (base := base) T
  obtain ⟨gr, Fn_does_rise, Sr⟩ := ok_riseF (P := P) (w := w) (base := base) T
  refine ⟨_, Fun.okL T.F_are_pairs sc_are_pairs fun cdv A outer s H E hr =>
(pssl_one (psl_ret (pel_and (pel_isi rfl T.n_isinstance (pel_var (i := 0)) (pe_bltn rfl T.n_tuple (v := .ty "tuple") (u := .type "tuple") (by decide +kernel) rfl) (.ty _) isi_tupleA) (pel_and (pel_callB (cl_all rfl) rfl T.n_all (by decide +kernel) (pal_cons (pel_lc (own := [("one", 1)]) rfl sc_are_pairs.nd (pil_val (pel_var (i := 0))) (blkOk_by (N := N_are_pairs) (sc := defScope s_are_pairs) (by decide +kernel)) (fun _ _ _ _ _ => (pgl_name (i := 1) sc_are_pairs.nd)) (fun _ _ _ _ _ => ptsl_nil) (fun _ _ _ _ _ => (pel_call Fn_is_pair (hr.mono (by decide)) rfl T.mg_is_pair T.F_is_pair.kp T.b_is_pair dfl_nil (pal_cons (pel_var (i := 1)) pal_nil)))) pal_nil)) (pel_one (pel_call Fn_does_rise (hr.mono (by decide)) rfl T.mg_does_rise T.F_does_rise.kp T.b_does_rise dfl_nil (pal_cons (pel_var (i := 0)) pal_nil))))))), ?_⟩
  intro S ps ⟨hl, hn, hrs, _, _⟩
  have hc : lComp (lIter (lVar 0)) [1] (gtName 1) tYesL (lCall 1 gp [] (aCons (lVar 1) aNil)) [some (.ftup (psD ps)), none] S = .ok (.lst (ps.map fun p => D.bl (prD (pD p)))) S :=
    comp_okL (iter_ok rfl rfl) (by rw [psD_len]; omega) (comp_map (enc := pD) (f := fun p => D.bl (prD (pD p))) trivial ps fun p hp => ⟨_, rfl, call_ok (acons_ok rfl rfl) rfl (Sp S _ (pD_in1 (hn p hp)))⟩)
  have ha := all_ok (S := S) (fun p : Pr => prD (pD p)) ps
  have ht : ps.all (fun p => prD (pD p)) = true := List.all_eq_true.mpr fun p hp => by
    show (nm p.1 && nm p.2) = true
    rw [(hn p hp).1, (hn p hp).2]
    rfl
  rw [ht] at ha
  have hr := Sr S ps (by omega)
  rw [hrs] at hr
  exact body_rt (ret_ok (andv_tt (d := .bl true) (isi_ok rfl rfl) rfl (andv_tt (d := .bl true) (callb_ok (acons_ok hc rfl) ha) rfl (call_ok (acons_ok rfl rfl) rfl hr))))
theorem ok_drawnF (T : T46 K mg) : ∃ g, FnL P w K mg base 4 T.f_are_drawn T.fd_are_drawn ["thing"] g ∧ SPairsF g := by
  obtain ⟨gp, Fn_are_pairs, Sp⟩ := ok_pairsF (P := P) (w := w) (base := base) T
  refine ⟨_, Fun.okL T.F_are_drawn sc_are_drawn fun cdv A outer s H E hr =>
(pssl_cons (psl_if (ptl_not (ptl_truth (pel_call Fn_are_pairs (hr.mono (by decide)) rfl T.mg_are_pairs T.F_are_pairs.kp T.b_are_pairs dfl_nil (pal_cons (pel_var (i := 0)) pal_nil)))) (pssl_one (psl_ret pel_bl)) pssl_nil)
  (pssl_cons (psl_setLc (i := 1) (own := [("giver", 2), ("taker", 3)]) sc_are_drawn.nd rfl (sw_true rfl rfl rfl (by decide +kernel)) rfl (pil_val (pel_var (i := 0))) (blkOk_by (N := N_are_drawn) (sc := defScope s_are_drawn) (by decide +kernel)) (.inl rfl) (fun _ _ _ _ _ => (pgl_tup (n := 2) rfl (pgsl_cons (pgl_name (i := 2) sc_are_drawn.nd) (pgsl_cons (pgl_name (i := 3) sc_are_drawn.nd) pgsl_nil)))) (fun _ _ _ _ _ => ptsl_nil) (fun _ _ _ _ _ => (pel_var (i := 2))))
  (pssl_cons (psl_if (ptl_cmp (opl_ne hr.units) (pel_lenSet rfl rfl T.n_len rfl T.n_set (pal_cons (pel_var (i := 1)) pal_nil)) (pel_callB (cl_len) rfl T.n_len (by decide +kernel) (pal_cons (pel_var (i := 1)) pal_nil))) (pssl_one (psl_ret pel_bl)) pssl_nil)
  (pssl_one (psl_ret (pel_cmp (opl_eq hr.units) (pel_callB (cl_sorted hr.units) rfl T.n_sorted (by decide +kernel) (pal_cons (pel_lc (own := [("giver", 2), ("taker", 3)]) rfl sc_are_drawn.nd (pil_val (pel_var (i := 0))) (blkOk_by (N := N_are_drawn) (sc := defScope s_are_drawn) (by decide +kernel)) (fun _ _ _ _ _ => (pgl_tup (n := 2) rfl (pgsl_cons (pgl_name (i := 2) sc_are_drawn.nd) (pgsl_cons (pgl_name (i := 3) sc_are_drawn.nd) pgsl_nil)))) (fun _ _ _ _ _ => ptsl_nil) (fun _ _ _ _ _ => (pel_var (i := 3)))) pal_nil)) (pel_var (i := 1)))))))), ?_⟩
  intro S ps hg
  have hp := Sp S ps hg
  obtain ⟨hl, hn, hrs, hnd, hsrt⟩ := hg
  have g1 : ∀ x : Option D, lComp (lIter (lVar 0)) [2, 3] (gtTup 2 (gtCons (gtName 2) (gtCons (gtName 3) gtNil))) tYesL (lVar 2) [some (.ftup (psD ps)), x, none, none] S = .ok (.lst ((givs ps).map D.str)) S := fun x => by
    unfold givs
    rw [List.map_map]
    exact comp_okL (iter_ok rfl rfl) (by rw [psD_len]; omega) (comp_map (enc := pD) (f := fun p => .str p.1) trivial ps fun p hp => ⟨_, rfl, rfl⟩)
  have g2 : ∀ x : Option D, lComp (lIter (lVar 0)) [2, 3] (gtTup 2 (gtCons (gtName 2) (gtCons (gtName 3) gtNil))) tYesL (lVar 3) [some (.ftup (psD ps)), x, none, none] S = .ok (.lst ((taks ps).map D.str)) S := fun x => by
    unfold taks
    rw [List.map_map]
    exact comp_okL (iter_ok rfl rfl) (by rw [psD_len]; omega) (comp_map (enc := pD) (f := fun p => .str p.2) trivial ps fun p hp => ⟨_, rfl, rfl⟩)
  have gl : (givs ps).length = ps.length := by simp [givs]
  have tl' : (taks ps).length = ps.length := by simp [taks]
  have hcnt : cntS (givs ps) ps.length = ps.length := by
    have := cnt_nodup hnd (givs ps).length (Nat.le_refl _)
    rw [gl] at this
    exact this
  have hset : gLenSet S [.lst ((givs ps).map D.str)] = some (.int (ps.length : Int)) := by
    unfold gLenSet
    dsimp only [vw]
    rw [strsD_map]
    dsimp only
    rw [if_pos (by rw [gl]; omega), gl, hcnt]
  have hlen : gLen S [.lst ((givs ps).map D.str)] = some (.int (ps.length : Int)) := by
    show some (D.int (((givs ps).map D.str).length : Int)) = _
    rw [List.length_map, gl]
  have hsort : gSorted S [.lst ((taks ps).map D.str)] = some (.lst ((givs ps).map D.str)) := by
    have := sorted_strs S (.lst ((taks ps).map D.str)) (taks ps) rfl (by omega)
    rw [hsrt] at this
    exact this
  have oks : ∀ y ∈ givs ps, PyData.strOk y = true := fun y hy => by
    obtain ⟨p, hp, rfl⟩ := List.mem_map.mp hy
    exact nm_ok (hn p hp).1
  have heq : gEq S (.lst ((givs ps).map D.str)) (.lst ((givs ps).map D.str)) = some (.bl true) := by
    have := eq_strs (S := S) oks oks
    rw [decide_eq_true rfl] at this
    exact this
  have hp' : tTru (lCall 1 gp [] (aCons (lVar 0) aNil)) [some (.ftup (psD ps)), none, none, none] S = .ok true S := tru_b (call_ok (acons_ok rfl rfl) rfl hp) rfl
  have ht : tTru (lBin gNe (lCallB gLenSet (aCons (lVar 1) aNil)) (lCallB gLen (aCons (lVar 1) aNil))) [some (.ftup (psD ps)), some (.lst ((givs ps).map D.str)), none, none] S = .ok false S :=
    tru_b (bin_ok (callb_ok (acons_ok rfl rfl) hset) (callb_ok (acons_ok rfl rfl) hlen) ne_ii) (by rw [decide_eq_true rfl]; rfl)
  exact body_rt (seq_nx (if_ff (not_ok hp') rfl) (seq_nx (set_ok (g1 _)) (seq_nx (if_ff ht rfl) (ret_ok (bin_ok (callb_ok (acons_ok (g2 _) rfl) hsort) rfl heq)))))
end
end K46

namespace K46
open PySem PySem.Spec PyProof.Rows L2 MP TL
open K06 (riP Cd cd_of cd_repr)
open K59 (Pr nm givs taks slt isL lets nm_ok sle sorted_strs cnt_nodup)
theorem toPDs_ps : ∀ ps : List Pr, toPDs (psD ps) = some (ps.map encP)
  | [] => rfl
  | p :: ps => by
    show (toPD (pD p)).bind _ = _
    have := toPDs_ps ps
    unfold psD at this
    simp [pD, toPD, toPDs, this, encP, psD]
theorem lay_ps : ∀ {ps : List Pr}, (∀ p ∈ ps, nm p.1 = true ∧ nm p.2 = true) → PyData.canLayAll0 (ps.map encP) = true ∧ PyData.depthAll (ps.map encP) ≤ 5
  | [], _ => ⟨rfl, by simp [PyData.depthAll]⟩
  | p :: ps, h => by
    obtain ⟨a, b⟩ := lay_ps (ps := ps) fun q hq => h q (by simp [hq])
    have hp := h p (by simp)
    refine ⟨by simp [PyData.canLayAll0, encP, PyData.canLay0, a, nm_ok hp.1, nm_ok hp.2], ?_⟩
    simp only [List.map_cons, PyData.depthAll, encP, PyData.depth]
    omega
theorem psD_inj : ∀ {ps qs : List Pr}, psD ps = psD qs → ps = qs
  | [], [], _ => rfl
  | [], _ :: _, h => by cases h
  | _ :: _, [], h => by cases h
  | (a, b) :: ps, (c, d) :: qs, h => by
    have h' : D.tup [.str a, .str b] :: psD ps = D.tup [.str c, .str d] :: psD qs := h
    injection h' with h1 h2
    injection h1 with h1
    injection h1 with h3 h4
    injection h3 with h3
    injection h4 with h4 _
    injection h4 with h4
    rw [h3, h4, psD_inj h2]
open Classical in
/-- the pairs of a drawing -/
noncomputable def prOf (C : Addr) (d : D) : Option (List Pr) := if h : ∃ ps, d = drD C ps ∧ GoodP ps then some h.choose else none
open Classical in
noncomputable def drF (C : Addr) : F := fun ds S => match ds with
  | [.ftup xs] => if ∃ ps, xs = psD ps ∧ GoodP ps then .ok (.obj C [("pairs", .ftup xs)]) S else .bad
  | _ => .bad
theorem drF_of {C : Addr} {ps : List Pr} {S : Sto} (h : GoodP ps) : drF C [.ftup (psD ps)] S = .ok (drD C ps) S := if_pos ⟨ps, rfl, h⟩
theorem st_new {C : Addr} {f : Str} {S : Sto} {fs : List (Str × D)} {d : D} (h : fs.length < 1000) : stFld C f (S ++ [.ins C fs]) (.ref S.length) d = some (S ++ [.ins C (putD f d fs)]) := by
  unfold stFld
  have e : (S ++ [O.ins C fs])[S.length]? = some (.ins C fs) := by simp
  have e2 : (S ++ [O.ins C fs]).set S.length (.ins C (putD f d fs)) = S ++ [.ins C (putD f d fs)] := by simp
  dsimp only
  rw [e]
  dsimp only
  rw [if_pos ⟨rfl, h⟩, e2]
theorem below_ps {n : Nat} : ∀ ps : List Pr, belows n (psD ps) = true
  | [] => rfl
  | p :: ps => by
    show (below n (.tup [.str p.1, .str p.2]) && belows n (psD ps)) = true
    rw [below_ps ps]
    rfl
theorem fz_dr {C : Addr} {S : Sto} {ps : List Pr} : drD C ps = fz (S ++ [O.ins C [("pairs", .ftup (psD ps))]]) S.length (.ref S.length) := by
  have e : (S ++ [O.ins C [("pairs", D.ftup (psD ps))]])[S.length]? = some (.ins C [("pairs", .ftup (psD ps))]) := by simp
  have e0 : fz0 (S ++ [O.ins C [("pairs", D.ftup (psD ps))]]) S.length (.ref S.length) = drD C ps := by
    unfold fz0
    dsimp only
    rw [if_neg (Nat.lt_irrefl _)]
    unfold vw
    dsimp only
    rw [e]
    rfl
  unfold fz
  rw [e0]
  rfl
section
variable {P : Program} {w : World} {K : PySem.W.Frag} {mg : Str → Option Value} {base : Heap}
theorem ok_init (T : T46 K mg) : ∃ g, FnL P w K mg base 5 T.f_Drawing___init__ T.fd_Drawing___init__ ["self", "pairs"] g ∧ ∀ ds S, RLe S (drF T.C_Drawing ds S) (mkF T.C_Drawing g ds S) := by
  obtain ⟨gd, Fn_are_drawn, Sd⟩ := ok_drawnF (P := P) (w := w) (base := base) T
  refine ⟨_, Fun.okL T.F_Drawing___init__ sc_Drawing___init__ fun cdv A outer s H E hr =>
(pssl_cons (psl_if (ptl_not (ptl_truth (pel_call Fn_are_drawn (hr.mono (by decide)) rfl T.mg_are_drawn T.F_are_drawn.kp T.b_are_drawn dfl_nil (pal_cons (pel_var (i := 1)) pal_nil)))) (pssl_one psl_bad) pssl_nil)
  (pssl_one (psl_fld T.cl_Drawing T.na_Drawing_pairs (pel_var (i := 0)) (pel_var (i := 1))))), fun ds S => ?_⟩
  unfold drF
  split
  · rename_i xs
    split
    · rename_i h
      obtain ⟨ps, rfl, hg⟩ := h
      have e := Sd (S ++ [.ins T.C_Drawing []]) ps hg
      have ht : tTru (lCall 1 gd [] (aCons (lVar 1) aNil)) [some (.ref S.length), some (.ftup (psD ps))] (S ++ [.ins T.C_Drawing []]) = .ok true (S ++ [.ins T.C_Drawing []]) := tru_b (call_ok (acons_ok rfl rfl) rfl e) rfl
      unfold mkF
      rw [body_nx (ds := [.ref S.length, .ftup (psD ps)]) (seq_nx (if_ff (not_ok ht) rfl) (stF_ok rfl rfl (st_new (fs := []) (by decide)))), bind_ok]
      refine .gc _ _ _ (by simp) fz_dr ?_
      show (belows S.length (psD ps) && true) = true
      rw [below_ps]
      rfl
    · exact .bad _
  · exact .bad _
end
end K46

namespace K46
open PySem PySem.Spec PyProof.Rows L2 MP TL
open K06 (riP Cd cd_of cd_repr)
open K59 (Pr nm givs taks slt isL lets nm_ok sle sorted_strs cnt_nodup slt_trans slt_irrefl)
/-! ### circles of members without houses, of bars, without years -/
theorem kof_str (a : Str) : kOf false (.str a) = some [.inr a] := rfl
def kv2 (ps : List Pr) : List (D × D) := ps.map fun p => (D.str p.1, D.str p.2)
theorem kvs_ps : ∀ ps : List Pr, kvsOf (psD ps) = some (kv2 ps)
  | [] => rfl
  | p :: ps => by
    show (kv1 (pD p)).bind _ = _
    have e : kv1 (pD p) = some (.str p.1, .str p.2) := rfl
    have ih := kvs_ps ps
    unfold psD at ih
    rw [e]
    show (kvsOf (List.map pD ps)).map _ = _
    rw [ih]
    rfl
theorem keys_ps : ∀ ps : List Pr, keysK (kv2 ps) = (givs ps).map Sum.inr
  | [] => rfl
  | p :: ps => by
    have ih := keys_ps ps
    unfold keysK kv2 at ih ⊢
    rw [List.map_cons, List.filterMap_cons_some (f := fun q : D × D => keyOf q.1) (a := (D.str p.1, D.str p.2)) (b := Sum.inr p.1) rfl, ih]
    rfl
theorem look_kv2 : ∀ {ps : List Pr} {p : Pr}, p ∈ ps → (givs ps).Nodup → lookD false (kv2 ps) [.inr p.1] = some (.str p.2)
  | q :: ps, p, hm, hn => by
    have hn' : q.1 ∉ givs ps ∧ (givs ps).Nodup := List.nodup_cons.mp hn
    show (if kOf false (.str q.1) = some [.inr p.1] then some (D.str q.2) else lookD false (kv2 ps) [.inr p.1]) = _
    rcases List.mem_cons.mp hm with h | h
    · rw [h, if_pos (kof_str q.1)]
    · rw [if_neg (fun z => by
        rw [kof_str] at z
        injection z with z
        injection z with z _
        injection z with z
        exact hn'.1 (by rw [z]; exact List.mem_map_of_mem (f := fun p : Pr => p.1) h)), look_kv2 h hn'.2]
def hsP (ns : List Str) : List Pr := ns.map fun x => (x, "")
def memD (ns : List Str) : List D := psD (hsP ns)
def houK (ns : List Str) : List (D × D) := kv2 (hsP ns)
def barK (bs : List Pr) : List (D × D) := bs.map fun p => (pD p, D.bl true)
def crFs (ns : List Str) (bs : List Pr) : List (Str × D) := [("members", .ftup (memD ns)), ("bars", .ftup (psD bs)), ("past", .ftup []), ("gap", .int 1), ("houses", .dct false (houK ns)), ("names_told", .tup (ns.map D.str)), ("barred", .dct true (barK bs)), ("gone_by", .dct true [])]
def crD (C : Addr) (ns : List Str) (bs : List Pr) : D := .obj C (crFs ns bs)
def GoodC (ns : List Str) (bs : List Pr) : Prop := ns.length ≤ 30 ∧ ns.Nodup ∧ bs.length ≤ 1000 ∧ bs.Nodup ∧ ∀ y ∈ ns, nm y = true
theorem hs_givs (ns : List Str) : givs (hsP ns) = ns := by
  unfold givs hsP
  rw [List.map_map]
  exact List.map_id _
theorem memD_inj {ns ms : List Str} (h : memD ns = memD ms) : ns = ms := by
  have e := psD_inj h
  rw [← hs_givs ns, e, hs_givs]
theorem look_hou {ns : List Str} (hn : ns.Nodup) {x : Str} (hx : x ∈ ns) : lookD false (houK ns) [.inr x] = some (.str "") := by
  have h := look_kv2 (ps := hsP ns) (p := (x, "")) (List.mem_map_of_mem (f := fun x : Str => ((x, "") : Pr)) hx) (by rw [hs_givs]; exact hn)
  exact h
theorem look_bar (bs : List Pr) (a b : Str) : (lookD true (barK bs) [.inr a, .inr b]).isSome = decide ((a, b) ∈ bs) := by
  induction bs with
  | nil => rfl
  | cons p bs ih =>
    show (if kOf true (pD p) = some [.inr a, .inr b] then some (D.bl true) else lookD true (barK bs) [.inr a, .inr b]).isSome = _
    have e : kOf true (pD p) = some [.inr p.1, .inr p.2] := rfl
    rw [e]
    by_cases h : p = (a, b)
    · subst h
      rw [if_pos rfl]
      simp
    · rw [if_neg (fun z => h (by
        injection z with z
        injection z with z1 z2
        injection z2 with z2 _
        injection z1 with z1
        injection z2 with z2
        exact Prod.ext z1 z2)), ih]
      simp [Ne.symm h]
theorem below_strs {n : Nat} : ∀ xs : List Str, belows n (xs.map D.str) = true
  | [] => rfl
  | x :: xs => by
    show (true && belows n (xs.map D.str)) = true
    rw [below_strs xs]
    rfl
theorem below_kv2 {n : Nat} : ∀ ps : List Pr, belowd n (kv2 ps) = true
  | [] => rfl
  | p :: ps => by
    show (true && belowd n (kv2 ps)) = true
    rw [below_kv2 ps]
    rfl
theorem below_bar {n : Nat} : ∀ ps : List Pr, belowd n (barK ps) = true
  | [] => rfl
  | p :: ps => by
    show (true && belowd n (barK ps)) = true
    rw [below_bar ps]
    rfl
theorem below_cr {n : Nat} (ns : List Str) (bs : List Pr) : belowf n (crFs ns bs) = true := by
  show (belows n (psD (hsP ns)) && (belows n (psD bs) && (true && (true && (belowd n (kv2 (hsP ns)) && (belows n (ns.map D.str) && (belowd n (barK bs) && (true && true)))))))) = true
  rw [below_ps, below_ps, below_kv2, below_strs, below_bar]
  rfl
theorem fz_cr {C : Addr} {S : Sto} {ns : List Str} {bs : List Pr} : crD C ns bs = fz (S ++ [O.ins C (crFs ns bs)]) S.length (.ref S.length) := by
  have e : (S ++ [O.ins C (crFs ns bs)])[S.length]? = some (.ins C (crFs ns bs)) := by simp
  have e0 : fz0 (S ++ [O.ins C (crFs ns bs)]) S.length (.ref S.length) = crD C ns bs := by
    unfold fz0
    dsimp only
    rw [if_neg (Nat.lt_irrefl _)]
    unfold vw
    dsimp only
    rw [e]
    rfl
  unfold fz
  rw [e0]
  rfl
theorem fld_new {C : Addr} {f : Str} {S : Sto} {fs : List (Str × D)} {d : D} {ρ : Ev} (h0 : ρ[0]? = some (some (D.ref S.length))) (h : fs.lookup f = some d) : lFld C f (lVar 0) ρ (S ++ [.ins C fs]) = .ok d (S ++ [.ins C fs]) := fld_ok (by unfold lVar; rw [h0]) (by
  unfold gFld
  have e : vw (S ++ [O.ins C fs]) (.ref S.length) = .obj C fs := by unfold vw; dsimp only; rw [show (S ++ [O.ins C fs])[S.length]? = some (.ins C fs) by simp]
  rw [e]
  dsimp only
  rw [if_pos rfl]
  exact h)
open Classical in
noncomputable def crF (C : Addr) : F := fun ds S => if h : ∃ q : List Str × List Pr, GoodC q.1 q.2 ∧ (ds = [.ftup (memD q.1), .ftup (psD q.2), .non, .int 1] ∨ (q.2 = [] ∧ ds = [.ftup (memD q.1), .non, .non, .int 1])) then .ok (crD C h.choose.1 h.choose.2) S else .bad
theorem crF_of {C : Addr} {ns : List Str} {bs : List Pr} {S : Sto} (hg : GoodC ns bs) : crF C [.ftup (memD ns), .ftup (psD bs), .non, .int 1] S = .ok (crD C ns bs) S := by
  have hx : ∃ q : List Str × List Pr, GoodC q.1 q.2 ∧ ([D.ftup (memD ns), D.ftup (psD bs), D.non, D.int 1] = [.ftup (memD q.1), .ftup (psD q.2), .non, .int 1] ∨ (q.2 = [] ∧ [D.ftup (memD ns), D.ftup (psD bs), D.non, D.int 1] = [.ftup (memD q.1), .non, .non, .int 1])) := ⟨(ns, bs), hg, .inl rfl⟩
  unfold crF
  rw [dif_pos hx]
  have h := hx.choose_spec.2
  generalize hx.choose = q at h ⊢
  rcases h with h | ⟨_, h⟩
  · injection h with h1 h2
    injection h2 with h2 _
    injection h1 with h1
    injection h2 with h2
    rw [memD_inj h1, psD_inj h2]
  · injection h with h1 h2
    injection h2 with h2 _
    cases h2
theorem crF_nil {C : Addr} {S : Sto} : crF C [.ftup [], .non, .non, .int 1] S = .ok (crD C [] []) S := by
  have hx : ∃ q : List Str × List Pr, GoodC q.1 q.2 ∧ ([D.ftup [], D.non, D.non, D.int 1] = [.ftup (memD q.1), .ftup (psD q.2), .non, .int 1] ∨ (q.2 = [] ∧ [D.ftup [], D.non, D.non, D.int 1] = [.ftup (memD q.1), .non, .non, .int 1])) := ⟨([], []), ⟨by decide, List.nodup_nil, by decide, List.nodup_nil, (fun y hy => nomatch hy)⟩, .inr ⟨rfl, rfl⟩⟩
  unfold crF
  rw [dif_pos hx]
  have h := hx.choose_spec.2
  generalize hx.choose = q at h ⊢
  rcases h with h | ⟨h0, h⟩
  · injection h with h1 h2
    injection h2 with h2 _
    cases h2
  · injection h with h1 h2
    injection h1 with h1
    have e : ([] : List Str) = q.1 := memD_inj h1
    rw [h0, ← e]
theorem kvsT_bar : ∀ bs : List Pr, kvsOfT (bs.map fun p => D.tup [pD p, .bl true]) = some (barK bs)
  | [] => rfl
  | p :: bs => by
    show (kv1T (.tup [pD p, .bl true])).bind (fun q => (kvsOfT (bs.map fun p => D.tup [pD p, .bl true])).map fun r => q :: r) = _
    rw [kvsT_bar bs]
    rfl
theorem keysT_bar : ∀ bs : List Pr, keysT (barK bs) = bs.map fun p => [Sum.inr p.1, Sum.inr p.2]
  | [] => rfl
  | p :: bs => by
    have ih := keysT_bar bs
    unfold keysT barK at ih ⊢
    rw [List.map_cons, List.filterMap_cons_some (f := fun q : D × D => kOf true q.1) (a := (pD p, D.bl true)) (b := [Sum.inr p.1, Sum.inr p.2]) rfl, ih]
    rfl
theorem dictT_ok {S : Sto} {bs : List Pr} (hn : bs.Nodup) (hl : bs.length ≤ 1000) : gDictT S [.lst (bs.map fun p => D.tup [pD p, .bl true])] = some (.dct true (barK bs)) := by
  show (kvsOfT (bs.map fun p => D.tup [pD p, .bl true])).bind _ = _
  rw [kvsT_bar]
  show (if (keysT (barK bs)).Nodup ∧ (barK bs).length ≤ 100000 then some (D.dct true (barK bs)) else none) = _
  refine if_pos ⟨?_, ?_⟩
  · rw [keysT_bar]
    unfold List.Nodup
    rw [List.pairwise_map]
    exact hn.imp fun {a b} q z => q (by
      injection z with z1 z2
      injection z2 with z2 _
      injection z1 with z1
      injection z2 with z2
      exact Prod.ext z1 z2)
  · unfold barK
    rw [List.length_map]
    omega
theorem dictH_ok {S : Sto} {ns : List Str} (hn : ns.Nodup) (hl : ns.length ≤ 1000) : gDictK S [.ftup (memD ns)] = some (.dct false (houK ns)) := by
  show (kvsOf (psD (hsP ns))).bind _ = _
  rw [kvs_ps]
  show (if (keysK (kv2 (hsP ns))).Nodup ∧ (kv2 (hsP ns)).length ≤ 100000 then some (D.dct false (kv2 (hsP ns))) else none) = _
  refine if_pos ⟨?_, ?_⟩
  · rw [keys_ps, hs_givs]
    unfold List.Nodup
    rw [List.pairwise_map]
    exact hn.imp fun {a b} q z => q (by injection z)
  · unfold kv2 hsP
    rw [List.length_map, List.length_map]
    omega
theorem hou_keys (ns : List Str) : (houK ns).map (·.1) = ns.map D.str := by
  unfold houK kv2 hsP
  rw [List.map_map, List.map_map]
  rfl
section
variable {P : Program} {w : World} {K : PySem.W.Frag} {mg : Str → Option Value} {base : Heap}
theorem ok_cinit (T : T46 K mg) : ∃ g, FnL P w K mg base 1 T.f_Circle___init__ T.fd_Circle___init__ ["self", "members", "bars", "past", "gap"] g ∧ ∀ ds S, RLe S (crF T.C_Circle ds S) (mkF T.C_Circle g ds S) := by
  refine ⟨_, FunD.okL T.F_Circle___init__ sc_Circle___init__ fun cdv A outer s H E hr =>
(pssl_cons (psl_fld T.cl_Circle T.na_Circle_members (pel_var (i := 0)) (pel_var (i := 1)))
  (pssl_cons (psl_fld T.cl_Circle T.na_Circle_bars (pel_var (i := 0)) (pel_or (pel_var (i := 2)) (pel_one pel_tup0)))
  (pssl_cons (psl_fld T.cl_Circle T.na_Circle_past (pel_var (i := 0)) (pel_or (pel_var (i := 3)) (pel_one pel_tup0)))
  (pssl_cons (psl_fld T.cl_Circle T.na_Circle_gap (pel_var (i := 0)) (pel_var (i := 4)))
  (pssl_cons (psl_fld T.cl_Circle T.na_Circle_houses (pel_var (i := 0)) (pel_callTy (cl_dictK rfl) rfl T.n_dict (by decide +kernel) (pal_cons (pel_fld T.cl_Circle T.na_Circle_members (pel_var (i := 0))) pal_nil)))
  (pssl_cons (psl_fld T.cl_Circle T.na_Circle_names_told (pel_var (i := 0)) (pel_callTy (cl_tupD rfl) rfl T.n_tuple (by decide +kernel) (pal_cons (pel_fld T.cl_Circle T.na_Circle_houses (pel_var (i := 0))) pal_nil)))
  (pssl_cons (psl_fld T.cl_Circle T.na_Circle_barred (pel_var (i := 0)) (pel_callTy (cl_dictT rfl hr.units) rfl T.n_dict (by decide +kernel) (pal_cons (pel_lc (own := [("pair", 5)]) rfl sc_Circle___init__.nd (pil_val (pel_fld T.cl_Circle T.na_Circle_bars (pel_var (i := 0)))) (blkOk_by (N := N_Circle___init__) (sc := defScope s_Circle___init__) (by decide +kernel)) (fun _ _ _ _ _ => (pgl_name (i := 5) sc_Circle___init__.nd)) (fun _ _ _ _ _ => ptsl_nil) (fun _ _ _ _ _ => (pel_tup (pal_cons (pel_var (i := 5)) (pal_cons pel_bl pal_nil))))) pal_nil)))
  (pssl_cons (psl_fld T.cl_Circle T.na_Circle_gone_by (pel_var (i := 0)) pel_dctT)
  (pssl_one (psl_for (passes_of rfl) rfl (pil_val (pel_slice sll_any (pel_fld T.cl_Circle T.na_Circle_past (pel_var (i := 0))) (pol_some (pel_callB (cl_max2 rfl) rfl T.n_max (by decide +kernel) (pal_cons pel_int (pal_cons (pel_op opl_sub (pel_callB (cl_len) rfl T.n_len (by decide +kernel) (pal_cons (pel_fld T.cl_Circle T.na_Circle_past (pel_var (i := 0))) pal_nil)) (pel_fld T.cl_Circle T.na_Circle_gap (pel_var (i := 0)))) pal_nil)))) pol_none)) (pgl_name (i := 6) sc_Circle___init__.nd) (pssl_one psl_bad))))))))))), fun ds S => ?_⟩
  unfold crF
  split
  · rename_i h
    have hs := h.choose_spec
    generalize h.choose = q at hs ⊢
    obtain ⟨ns, bs⟩ := q
    obtain ⟨⟨h1, h2, h3, h4, h5⟩, hd⟩ := hs
    dsimp only at h1 h2 h3 h4 h5 hd ⊢
    have st : ∀ (f : Str) (d : D) (fs : List (Str × D)) (le : LE) (ρ : Ev), ρ[0]? = some (some (D.ref S.length)) → fs.length < 100 → le ρ (S ++ [.ins T.C_Circle fs]) = .ok d (S ++ [.ins T.C_Circle fs]) → lStF T.C_Circle f (lVar 0) le ρ (S ++ [.ins T.C_Circle fs]) = .ok (.nx ρ) (S ++ [.ins T.C_Circle (putD f d fs)]) := fun f d fs le ρ h0 hl h => stF_ok h (by unfold lVar; rw [h0]) (st_new (by omega))
    obtain ⟨b, rfl, hb⟩ : ∃ b, ds = [.ftup (memD ns), b, .non, .int 1] ∧ ∀ S', lOrV (lVar 2) lTup0 [some (.ref S.length), some (.ftup (memD ns)), some b, some .non, some (.int 1), none, none] S' = .ok (.ftup (psD bs)) S' := by
      rcases hd with rfl | ⟨rfl, rfl⟩
      · refine ⟨_, rfl, fun S' => ?_⟩
        cases bs with
        | nil => exact orv_ff (d := .ftup []) rfl rfl rfl
        | cons p bs => exact orv_tt rfl rfl
      · exact ⟨_, rfl, fun S' => orv_ff (d := .non) rfl rfl rfl⟩
    unfold mkF
    rw [body_nx (ds := [.ref S.length, .ftup (memD ns), b, .non, .int 1]) (S' := S ++ [O.ins T.C_Circle (crFs ns bs)])
      (seq_nx (st "members" (.ftup (memD ns)) [] _ _ rfl (Nat.le_of_ble_eq_true rfl) rfl)
      (seq_nx (st "bars" (.ftup (psD bs)) _ _ _ rfl (Nat.le_of_ble_eq_true rfl) (hb _))
      (seq_nx (st "past" (.ftup []) _ _ _ rfl (Nat.le_of_ble_eq_true rfl) rfl)
      (seq_nx (st "gap" (.int 1) _ _ _ rfl (Nat.le_of_ble_eq_true rfl) rfl)
      (seq_nx (st "houses" (.dct false (houK ns)) _ _ _ rfl (Nat.le_of_ble_eq_true rfl) (callb_ok (acons_ok (fld_new rfl rfl) rfl) (dictH_ok h2 (by omega))))
      (seq_nx (st "names_told" (.tup (ns.map D.str)) _ _ _ rfl (Nat.le_of_ble_eq_true rfl) (callb_ok (acons_ok (fld_new rfl rfl) rfl) (show some (D.tup ((houK ns).map (·.1))) = _ by rw [hou_keys])))
      (seq_nx (st "barred" (.dct true (barK bs)) _ _ _ rfl (Nat.le_of_ble_eq_true rfl) (callb_ok (acons_ok (comp_okL (iter_ok (fld_new rfl rfl) rfl) (by rw [psD_len]; omega) (comp_map (enc := pD) (f := fun p => D.tup [pD p, .bl true]) trivial bs fun p hp => ⟨_, rfl, tup_ok (acons_ok rfl (acons_ok rfl rfl)) (by simp)⟩)) rfl) (dictT_ok h4 h3)))
      (seq_nx (st "gone_by" (.dct true []) _ _ _ rfl (Nat.le_of_ble_eq_true rfl) rfl)
      (for_ok (iter_ok (slice_ok (fld_new rfl rfl) (osome_ok (callb_ok (acons_ok rfl (acons_ok (bin_ok (callb_ok (acons_ok (fld_new rfl rfl) rfl) rfl) (fld_new rfl rfl) rfl) rfl)) rfl)) rfl rfl) rfl) (for_end trivial)))))))))), bind_ok]
    refine .gc _ _ _ (by simp) fz_cr ?_
    exact below_cr ns bs
  · exact .bad _
/-! ### what a circle tells -/
theorem recv_cr {C : Addr} {S : Sto} {ns : List Str} {bs : List Pr} {mn : Str} (h : ((crFs [] []).map (·.1)).contains mn = false) : recv C mn S (crD C ns bs) = true := by
  show (decide (C = C) && ((crFs ns bs).lookup mn).isNone) = true
  rw [decide_eq_true rfl]
  have e : ∀ fs : List (Str × D), (fs.map (·.1)).contains mn = false → fs.lookup mn = none := by
    intro fs
    induction fs with
    | nil => intro _; rfl
    | cons p fs ih =>
      intro h
      obtain ⟨a, b⟩ := p
      rw [List.map_cons, List.contains_cons, Bool.or_eq_false_iff] at h
      rw [List.lookup_cons, h.1]
      exact ih h.2
  rw [e (crFs ns bs) h]
  rfl
theorem fld_cr {C : Addr} {S : Sto} {ρ : Ev} {i : Nat} {f : Str} {ns : List Str} {bs : List Pr} {d : D} (h : ρ[i]? = some (some (crD C ns bs))) (hf : (crFs ns bs).lookup f = some d) : lFld C f (lVar i) ρ S = .ok d S := fld_ok (d := crD C ns bs) (by unfold lVar; rw [h]) (by
  show (if C = C then (crFs ns bs).lookup f else none) = _
  rw [if_pos rfl]
  exact hf)
def SCNames (C : Addr) (g : F) : Prop := ∀ (S : Sto) (ns : List Str) (bs : List Pr), g [crD C ns bs] S = .ok (.tup (ns.map D.str)) S
def SHouse (C : Addr) (g : F) : Prop := ∀ (S : Sto) (ns : List Str) (bs : List Pr) (x : Str), ns.Nodup → x ∈ ns → g [crD C ns bs, .str x] S = .ok (.str "") S
def rsn (bs : List Pr) (a b : Str) : D := if a = b then .str "self" else if (a, b) ∈ bs then .str "bar" else .non
def SReason (C : Addr) (g : F) : Prop := ∀ (S : Sto) (ns : List Str) (bs : List Pr) (a b : Str), ns.Nodup → a ∈ ns → b ∈ ns → g [crD C ns bs, .str a, .str b] S = .ok (rsn bs a b) S
def may (bs : List Pr) (a b : Str) : Bool := decide (a ≠ b) && !decide ((a, b) ∈ bs)
theorem rsn_may (bs : List Pr) (a b : Str) : isNonD (rsn bs a b) = may bs a b := by
  unfold rsn may
  by_cases h : a = b
  · rw [if_pos h]; simp [h, isNonD]
  · rw [if_neg h]
    by_cases h2 : (a, b) ∈ bs
    · rw [if_pos h2]; simp [h, h2, isNonD]
    · rw [if_neg h2]; simp [h, h2, isNonD]
def STakers (C : Addr) (g : F) : Prop := ∀ (S : Sto) (ns : List Str) (bs : List Pr) (a : Str), ns.Nodup → ns.length ≤ 30 → a ∈ ns → g [crD C ns bs, .str a] S = .ok (.tup ((ns.filter fun b => may bs a b).map D.str)) S
theorem ok_cnames (T : T46 K mg) : ∃ g, FnL P w K mg base 1 T.f_Circle_names T.fd_Circle_names ["self"] g ∧ SCNames T.C_Circle g := by
  refine ⟨_, Fun.okL T.F_Circle_names sc_Circle_names fun cdv A outer s H E hr =>
(pssl_one (psl_ret (pel_fld T.cl_Circle T.na_Circle_names_told (pel_var (i := 0))))), ?_⟩
  intro S ns bs
  exact body_rt (ret_ok (fld_cr rfl rfl))
theorem ok_house (T : T46 K mg) : ∃ g, FnL P w K mg base 1 T.f_Circle_house_of T.fd_Circle_house_of ["self", "name"] g ∧ SHouse T.C_Circle g := by
  refine ⟨_, Fun.okL T.F_Circle_house_of sc_Circle_house_of fun cdv A outer s H E hr =>
(pssl_cons (psl_if (PWL.pt (pwl_or (ptl_not (ptl_truth (pel_isi rfl T.n_isinstance (pel_var (i := 1)) (pe_bltn rfl T.n_str (v := .ty "str") (u := .type "str") (by decide +kernel) rfl) (.ty _) isi_strA))) (pwl_or1 (ptl_cmp (opl_dnotin hr.units) (pel_var (i := 1)) (pel_fld T.cl_Circle T.na_Circle_houses (pel_var (i := 0))))))) (pssl_one psl_bad) pssl_nil)
  (pssl_one (psl_ret (pel_ix (ixl_dct hr.units) (pel_fld T.cl_Circle T.na_Circle_houses (pel_var (i := 0))) (pel_var (i := 1)))))), ?_⟩
  intro S ns bs x hn hx
  have hlk := look_hou hn hx
  have h1 : gDnotin S (.str x) (.dct false (houK ns)) = some (.bl false) := by
    show some (D.bl (!(lookD false (houK ns) [.inr x]).isSome)) = _
    rw [hlk]
    rfl
  have h2 : gDix S (.dct false (houK ns)) (.str x) = some (.str "") := hlk
  exact body_rt (seq_nx (if_ff (or_ff (not_ok (b := true) (tru_b (isi_ok rfl rfl) rfl)) (tru_b (bin_ok rfl (fld_cr rfl rfl) h1) rfl)) rfl) (ret_ok (bin_ok (fld_cr rfl rfl) rfl h2)))
theorem ok_reason (T : T46 K mg) : ∃ g, FnL P w K mg base 2 T.f_Circle_reason T.fd_Circle_reason ["self", "giver", "taker"] g ∧ SReason T.C_Circle g := by
  obtain ⟨gh, Fn_Circle_house_of, Sh⟩ := ok_house (P := P) (w := w) (base := base) T
  refine ⟨_, Fun.okL T.F_Circle_reason sc_Circle_reason fun cdv A outer s H E hr =>
(pssl_cons (psl_par (i := 3) (j := 4) rfl sc_Circle_reason.nd (pal_cons (pel_meth T.cl_Circle T.mt_Circle_house_of Fn_Circle_house_of (hr.mono (by decide)) T.b_Circle_house_of dfl_nil (pel_var (i := 0)) (pal_cons (pel_var (i := 1)) pal_nil)) (pal_cons (pel_meth T.cl_Circle T.mt_Circle_house_of Fn_Circle_house_of (hr.mono (by decide)) T.b_Circle_house_of dfl_nil (pel_var (i := 0)) (pal_cons (pel_var (i := 2)) pal_nil)) pal_nil)))
  (pssl_cons (psl_if (ptl_cmp (opl_eq hr.units) (pel_var (i := 1)) (pel_var (i := 2))) (pssl_one (psl_ret pel_str)) pssl_nil)
  (pssl_cons (psl_if (PWL.pt (pwl_and (ptl_cmp (opl_ne hr.units) (pel_var (i := 3)) pel_str) (pwl_and1 (ptl_cmp (opl_eq hr.units) (pel_var (i := 3)) (pel_var (i := 4)))))) (pssl_one (psl_ret pel_str)) pssl_nil)
  (pssl_cons (psl_if (ptl_cmp (opl_din hr.units) (pel_tup (pal_cons (pel_var (i := 1)) (pal_cons (pel_var (i := 2)) pal_nil))) (pel_fld T.cl_Circle T.na_Circle_barred (pel_var (i := 0)))) (pssl_one (psl_ret pel_str)) pssl_nil)
  (pssl_one (psl_ret (pel_ifExp (ptl_cmp (opl_din hr.units) (pel_tup (pal_cons (pel_var (i := 1)) (pal_cons (pel_var (i := 2)) pal_nil))) (pel_fld T.cl_Circle T.na_Circle_gone_by (pel_var (i := 0)))) pel_str pel_non))))))), ?_⟩
  intro S ns bs a b hn ha hb
  have e1 : lPar 3 4 (aCons (lMeth T.C_Circle "house_of" 2 gh [] (lVar 0) (aCons (lVar 1) aNil)) (aCons (lMeth T.C_Circle "house_of" 2 gh [] (lVar 0) (aCons (lVar 2) aNil)) aNil)) [some (crD T.C_Circle ns bs), some (.str a), some (.str b), none, none] S = .ok (.nx [some (crD T.C_Circle ns bs), some (.str a), some (.str b), some (.str ""), some (.str "")]) S :=
    par_ok (acons_ok (meth_ok (d := crD T.C_Circle ns bs) rfl (recv_cr (by decide)) (acons_ok rfl rfl) rfl (Sh S ns bs a hn ha)) (acons_ok (meth_ok (d := crD T.C_Circle ns bs) rfl (recv_cr (by decide)) (acons_ok rfl rfl) rfl (Sh S ns bs b hn hb)) rfl))
  have ht : gDin S (.tup [.str a, .str b]) (.dct true (barK bs)) = some (.bl (decide ((a, b) ∈ bs))) := by
    show some (D.bl (lookD true (barK bs) [.inr a, .inr b]).isSome) = _
    rw [look_bar]
  unfold rsn
  by_cases h : a = b
  · rw [if_pos h]
    exact body_rt (seq_nx e1 (seq_rt (if_tt (tru_b (bin_ok rfl rfl eq_ss) (decide_eq_true h)) (ret_ok rfl))))
  · rw [if_neg h]
    have t1 : tTru (lBin gEq (lVar 1) (lVar 2)) [some (crD T.C_Circle ns bs), some (.str a), some (.str b), some (.str ""), some (.str "")] S = .ok false S := tru_b (bin_ok rfl rfl eq_ss) (decide_eq_false h)
    have t2 : ∀ t : LT, MP.tAnd (tTru (lBin gNe (lVar 3) (lC (.str "")))) t [some (crD T.C_Circle ns bs), some (.str a), some (.str b), some (.str ""), some (.str "")] S = .ok false S := fun t => and_ff (tru_b (bin_ok rfl rfl ne_ss) (by rw [decide_eq_true rfl]; rfl))
    by_cases h2 : (a, b) ∈ bs
    · rw [if_pos h2]
      exact body_rt (seq_nx e1 (seq_nx (if_ff t1 rfl) (seq_nx (if_ff (t2 _) rfl) (seq_rt (if_tt (tru_b (bin_ok (tup_ok (acons_ok rfl (acons_ok rfl rfl)) (by simp)) (fld_cr rfl rfl) ht) (decide_eq_true h2)) (ret_ok rfl))))))
    · rw [if_neg h2]
      have tg : tTru (lBin gDin (lTup (aCons (lVar 1) (aCons (lVar 2) aNil))) (lFld T.C_Circle "gone_by" (lVar 0))) [some (crD T.C_Circle ns bs), some (.str a), some (.str b), some (.str ""), some (.str "")] S = .ok false S := tru_b (bin_ok (tup_ok (acons_ok rfl (acons_ok rfl rfl)) (by simp)) (fld_cr rfl rfl) (show gDin S (.tup [.str a, .str b]) (.dct true []) = some (.bl false) from rfl)) rfl
      exact body_rt (seq_nx e1 (seq_nx (if_ff t1 rfl) (seq_nx (if_ff (t2 _) rfl) (seq_nx (if_ff (tru_b (bin_ok (tup_ok (acons_ok rfl (acons_ok rfl rfl)) (by simp)) (fld_cr rfl rfl) ht) (decide_eq_false h2)) rfl) (ret_ok (ife_ff tg rfl))))))
theorem ok_takers (T : T46 K mg) : ∃ g, FnL P w K mg base 3 T.f_Circle_takers T.fd_Circle_takers ["self", "giver"] g ∧ STakers T.C_Circle g := by
  obtain ⟨gh, Fn_Circle_house_of, Sh⟩ := ok_house (P := P) (w := w) (base := base) T
  obtain ⟨gn, Fn_Circle_names, Sn⟩ := ok_cnames (P := P) (w := w) (base := base) T
  obtain ⟨gr, Fn_Circle_reason, Sr⟩ := ok_reason (P := P) (w := w) (base := base) T
  refine ⟨_, Fun.okL T.F_Circle_takers sc_Circle_takers fun cdv A outer s H E hr =>
(pssl_cons (psl_expr (pel_meth T.cl_Circle T.mt_Circle_house_of Fn_Circle_house_of (hr.mono (by decide)) T.b_Circle_house_of dfl_nil (pel_var (i := 0)) (pal_cons (pel_var (i := 1)) pal_nil)))
  (pssl_one (psl_ret (pel_callTy (cl_tuple) rfl T.n_tuple (by decide +kernel) (pal_cons (pel_lc (own := [("name", 2)]) rfl sc_Circle_takers.nd (pil_val (pel_meth0 T.cl_Circle T.mt_Circle_names Fn_Circle_names (hr.mono (by decide)) T.b_Circle_names dfl_nil (pel_var (i := 0)))) (blkOk_by (N := N_Circle_takers) (sc := defScope s_Circle_takers) (by decide +kernel)) (fun _ _ _ _ _ => (pgl_name (i := 2) sc_Circle_takers.nd)) (fun _ _ _ _ _ => (ptsl_one (ptl_cmp opl_isN (pel_meth T.cl_Circle T.mt_Circle_reason Fn_Circle_reason (hr.mono (by decide)) T.b_Circle_reason dfl_nil (pel_var (i := 0)) (pal_cons (pel_var (i := 1)) (pal_cons (pel_var (i := 2)) pal_nil))) pel_non))) (fun _ _ _ _ _ => (pel_var (i := 2)))) pal_nil))))), ?_⟩
  intro S ns bs a hn hl ha
  have hc : lComp (lIter (lMeth T.C_Circle "names" 1 gn [] (lVar 0) aNil)) [2] (gtName 2) (tTru (lBin gIsN (lMeth T.C_Circle "reason" 3 gr [] (lVar 0) (aCons (lVar 1) (aCons (lVar 2) aNil))) (lC .non))) (lVar 2) [some (crD T.C_Circle ns bs), some (.str a), none] S = .ok (.lst ((ns.filter fun b => may bs a b).map D.str)) S := by
    refine comp_okL (iter_ok (meth_ok (d := crD T.C_Circle ns bs) (ds := []) rfl (recv_cr (by decide)) rfl rfl (Sn S ns bs)) rfl) (by rw [List.length_map]; omega) (comp_filter (enc := D.str) (f := D.str) (p := fun b => may bs a b) trivial ns fun b hb => ⟨_, rfl, ?_, fun _ => rfl⟩)
    exact tru_b (bin_ok (meth_ok (d := crD T.C_Circle ns bs) rfl (recv_cr (by decide)) (acons_ok rfl (acons_ok rfl rfl)) rfl (Sr S ns bs a b hn ha hb)) rfl rfl) (rsn_may bs a b)
  exact body_rt (seq_nx (expr_ok (meth_ok (d := crD T.C_Circle ns bs) rfl (recv_cr (by decide)) (acons_ok rfl rfl) rfl (Sh S ns bs a hn ha))) (ret_ok (callb_ok (acons_ok hc rfl) rfl)))
end
end K46

namespace K46
open PySem PySem.Spec PyProof.Rows L2 MP TL
open K06 (riP Cd cd_of cd_repr)
open K59 (Pr nm givs taks slt isL lets nm_ok sle sorted_strs cnt_nodup slt_trans slt_irrefl)
/-! ### whether a drawing keeps, years, what shows that no more are -/
theorem nm_len {x : Str} (h : nm x = true) : x.length ≤ 12 := by
  unfold nm at h
  rw [Bool.and_eq_true] at h
  exact (of_decide_eq_true h.1).2
theorem fld_dr {C : Addr} {S : Sto} {ρ : Ev} {i : Nat} {ps : List Pr} (h : ρ[i]? = some (some (drD C ps))) : lFld C "pairs" (lVar i) ρ S = .ok (.ftup (psD ps)) S := fld_ok (by unfold lVar; rw [h]) (by
  unfold gFld drD
  dsimp only [vw]
  rw [if_pos rfl]
  rfl)
theorem ne_tstrs {S : Sto} {as bs : List Str} (ha : ∀ y ∈ as, PyData.strOk y = true) (hb : ∀ y ∈ bs, PyData.strOk y = true) : gNe S (.tup (as.map D.str)) (.tup (bs.map D.str)) = some (.bl (!decide (as = bs))) := by
  have e1 : ∀ as : List Str, toPD (.tup (as.map D.str)) = some (.tuple (as.map PyData.str)) := fun as => by simp [toPD, K59.toPDs_str]
  have sh : ∀ {as : List Str}, (∀ y ∈ as, PyData.strOk y = true) → SeqAt.shaped (.tuple (as.map PyData.str)) = true := fun {as} h => by
    unfold SeqAt.shaped
    rw [Bool.and_eq_true]
    refine ⟨K59.canLay_str h, decide_eq_true ?_⟩
    have h2 := MP.depth_strs as
    simp only [PyData.depth, h2]
    omega
  have e : eqP S (.tup (as.map D.str)) (.tup (bs.map D.str)) = some (decide (as = bs)) := by
    unfold eqP
    dsimp only [vw]
    rw [e1, e1]
    show (if SeqAt.shaped (.tuple (as.map PyData.str)) = true ∧ SeqAt.shaped (.tuple (bs.map PyData.str)) = true then some (PyData.eqv (.tuple (as.map PyData.str)) (.tuple (bs.map PyData.str))) else none) = _
    rw [if_pos ⟨sh ha, sh hb⟩]
    simp [PyData.eqv, eqvAll_strs]
  unfold gNe eqD
  rw [e]
  rfl
def rowD (bs : List Pr) (p : Pr) : D := .tup [.str p.1, .str p.2, rsn bs p.1 p.2]
def rsP' (bs : List Pr) (p : Pr) : PyData := if p.1 = p.2 then .str "self" else if p ∈ bs then .str "bar" else .none
def rowP (bs : List Pr) (p : Pr) : PyData := .tuple [.str p.1, .str p.2, rsP' bs p]
theorem toPD_row (bs : List Pr) (p : Pr) : toPD (rowD bs p) = some (rowP bs p) := by
  unfold rowD rowP rsP' rsn
  by_cases h : p.1 = p.2
  · rw [if_pos h, if_pos h]; rfl
  · rw [if_neg h, if_neg h]
    by_cases h2 : p ∈ bs
    · rw [if_pos h2, if_pos h2]; rfl
    · rw [if_neg h2, if_neg h2]; rfl
theorem toPDs_rows (bs : List Pr) : ∀ L : List Pr, toPDs (L.map (rowD bs)) = some (L.map (rowP bs))
  | [] => rfl
  | p :: L => by
    show (toPD (rowD bs p)).bind _ = _
    rw [toPD_row]
    show (toPDs (L.map (rowD bs))).map _ = _
    rw [toPDs_rows bs L]
    rfl
theorem lay_rows (bs : List Pr) : ∀ {L : List Pr}, (∀ p ∈ L, nmP p) → PyData.canLayAll0 (L.map (rowP bs)) = true ∧ PyData.depthAll (L.map (rowP bs)) ≤ 5
  | [], _ => ⟨rfl, by simp [PyData.depthAll]⟩
  | p :: L, h => by
    obtain ⟨a, b⟩ := lay_rows bs (L := L) fun x hx => h x (by simp [hx])
    have hp := h p (by simp)
    have hr : PyData.canLay0 (rsP' bs p) = true ∧ (rsP' bs p).depth = 0 := by
      unfold rsP'
      split
      · exact ⟨show PyData.strOk _ = true by decide +kernel, rfl⟩
      · split
        · exact ⟨show PyData.strOk _ = true by decide +kernel, rfl⟩
        · exact ⟨rfl, rfl⟩
    refine ⟨by simp [PyData.canLayAll0, rowP, PyData.canLay0, a, nm_ok hp.1, nm_ok hp.2, hr.1], ?_⟩
    simp only [List.map_cons, PyData.depthAll, rowP, PyData.depth, hr.2]
    omega
theorem eq_rows {S : Sto} {bs L : List Pr} (h : ∀ p ∈ L, nmP p) : gEq S (.tup (L.map (rowD bs))) (.tup []) = some (.bl L.isEmpty) := by
  have e1 : ∀ L : List Pr, toPD (.tup (L.map (rowD bs))) = some (.tuple (L.map (rowP bs))) := fun L => by simp [toPD, toPDs_rows]
  have sh : ∀ {L : List Pr}, (∀ p ∈ L, nmP p) → SeqAt.shaped (.tuple (L.map (rowP bs))) = true := fun h => by
    unfold SeqAt.shaped
    obtain ⟨a, b⟩ := lay_rows bs h
    rw [Bool.and_eq_true]
    refine ⟨a, decide_eq_true ?_⟩
    simp only [PyData.depth]
    omega
  have e : eqP S (.tup (L.map (rowD bs))) (.tup []) = some L.isEmpty := by
    unfold eqP
    dsimp only [vw]
    rw [e1, show toPD (.tup []) = some (.tuple []) from rfl]
    show (if SeqAt.shaped (.tuple (L.map (rowP bs))) = true ∧ SeqAt.shaped (.tuple []) = true then some (PyData.eqv (.tuple (L.map (rowP bs))) (.tuple [])) else none) = _
    rw [if_pos ⟨sh h, by rfl⟩]
    cases L <;> simp [PyData.eqv, PyData.eqvAll]
  unfold gEq eqD
  rw [e]
  rfl
def kp (ns : List Str) (bs ps : List Pr) : Bool := decide (ns = givs ps) && ps.all fun p => may bs p.1 p.2
def SBroken (C C2 : Addr) (g : F) : Prop := ∀ (S : Sto) (ns : List Str) (bs ps : List Pr), GoodC ns bs → GoodP ps → ns = givs ps → g [crD C ns bs, drD C2 ps] S = .ok (.tup ((ps.filter fun p => !may bs p.1 p.2).map (rowD bs))) S
def SKeeps (C C2 : Addr) (g : F) : Prop := ∀ (S : Sto) (ns : List Str) (bs ps : List Pr), GoodC ns bs → GoodP ps → g [crD C ns bs, drD C2 ps] S = .ok (.bl (kp ns bs ps)) S
theorem notInL {S : Sto} {x : Str} {ys : List Str} : gNotInL S (.str x) (.lst (ys.map D.str)) = some (.bl (!decide (x ∈ ys))) := by
  show (strsD (ys.map D.str)).map _ = _
  rw [strsD_map]
  rfl
theorem notInT {S : Sto} {x : Str} {ys : List Str} : gNotInT S (.str x) (.tup (ys.map D.str)) = some (.bl (!decide (x ∈ ys))) := by
  show (strsD (ys.map D.str)).map _ = _
  rw [strsD_map]
  rfl
theorem inT {S : Sto} {x : Str} {ys : List Str} : gInT S (.str x) (.tup (ys.map D.str)) = some (.bl (decide (x ∈ ys))) := by
  show (strsD (ys.map D.str)).map _ = _
  rw [strsD_map]
  rfl
theorem GoodP.taks {ps : List Pr} (h : GoodP ps) {p : Pr} (hp : p ∈ ps) : p.2 ∈ givs ps := by
  rw [← h.2.2.2.2]
  exact (List.mergeSort_perm _ _).mem_iff.mpr (List.mem_map_of_mem (f := fun p : Pr => p.2) hp)
theorem filt_all {f : Pr → Bool} : ∀ ps : List Pr, (ps.filter fun p => !f p).isEmpty = ps.all f
  | [] => rfl
  | p :: ps => by
    rw [List.filter_cons, List.all_cons]
    cases h : f p with
    | true => exact filt_all ps
    | false => rfl
theorem filter_none {α : Type} {xs : List α} {p : α → Bool} (h : ∀ x ∈ xs, p x = false) : xs.filter p = [] := List.filter_eq_nil_iff.mpr fun x hx => by rw [h x hx]; exact Bool.false_ne_true
section
variable {P : Program} {w : World} {K : PySem.W.Frag} {mg : Str → Option Value} {base : Heap}
theorem ok_broken (T : T46 K mg) : ∃ g, FnL P w K mg base 3 T.f_broken T.fd_broken ["circle", "drawing"] g ∧ SBroken T.C_Circle T.C_Drawing g := by
  obtain ⟨gn, Fn_Circle_names, Sn⟩ := ok_cnames (P := P) (w := w) (base := base) T
  obtain ⟨gr, Fn_Circle_reason, Sr⟩ := ok_reason (P := P) (w := w) (base := base) T
  refine ⟨_, Fun.okL T.F_broken sc_broken fun cdv A outer s H E hr =>
(pssl_cons (psl_asg (pel_tup (pal_cons (pel_meth0 T.cl_Circle T.mt_Circle_names Fn_Circle_names (hr.mono (by decide)) T.b_Circle_names dfl_nil (pel_var (i := 0))) (pal_cons (pel_lc (own := [("giver", 4), ("taker", 5)]) rfl sc_broken.nd (pil_val (pel_fld T.cl_Drawing T.na_Drawing_pairs (pel_var (i := 1)))) (blkOk_by (N := N_broken) (sc := defScope s_broken) (by decide +kernel)) (fun _ _ _ _ _ => (pgl_tup (n := 2) rfl (pgsl_cons (pgl_name (i := 4) sc_broken.nd) (pgsl_cons (pgl_name (i := 5) sc_broken.nd) pgsl_nil)))) (fun _ _ _ _ _ => ptsl_nil) (fun _ _ _ _ _ => (pel_var (i := 4)))) pal_nil))) (pgl_tup (n := 2) rfl (pgsl_cons (pgl_name (i := 2) sc_broken.nd) (pgsl_cons (pgl_name (i := 3) sc_broken.nd) pgsl_nil))))
  (pssl_cons (psl_set (i := 6) sc_broken.nd (pel_op opl_add2 (pel_lc (own := [("name", 7)]) rfl sc_broken.nd (pil_val (pel_var (i := 2))) (blkOk_by (N := N_broken) (sc := defScope s_broken) (by decide +kernel)) (fun _ _ _ _ _ => (pgl_name (i := 7) sc_broken.nd)) (fun _ _ _ _ _ => (ptsl_one (ptl_cmp opl_notInL (pel_var (i := 7)) (pel_var (i := 3))))) (fun _ _ _ _ _ => (pel_var (i := 7)))) (pel_lc (own := [("name", 7)]) rfl sc_broken.nd (pil_val (pel_var (i := 3))) (blkOk_by (N := N_broken) (sc := defScope s_broken) (by decide +kernel)) (fun _ _ _ _ _ => (pgl_name (i := 7) sc_broken.nd)) (fun _ _ _ _ _ => (ptsl_one (ptl_cmp opl_notInT (pel_var (i := 7)) (pel_var (i := 2))))) (fun _ _ _ _ _ => (pel_var (i := 7))))))
  (pssl_cons (psl_if (ptl_cmp (opl_ne hr.units) (pel_var (i := 6)) (pel_lst pal_nil)) (pssl_one psl_bad) pssl_nil)
  (pssl_cons (psl_setLc (i := 8) (own := [("giver", 4), ("taker", 5)]) sc_broken.nd rfl (sw_true rfl rfl rfl (by decide +kernel)) rfl (pil_val (pel_fld T.cl_Drawing T.na_Drawing_pairs (pel_var (i := 1)))) (blkOk_by (N := N_broken) (sc := defScope s_broken) (by decide +kernel)) (.inl rfl) (fun _ _ _ _ _ => (pgl_tup (n := 2) rfl (pgsl_cons (pgl_name (i := 4) sc_broken.nd) (pgsl_cons (pgl_name (i := 5) sc_broken.nd) pgsl_nil)))) (fun _ _ _ _ _ => ptsl_nil) (fun _ _ _ _ _ => (pel_tup (pal_cons (pel_var (i := 4)) (pal_cons (pel_var (i := 5)) (pal_cons (pel_meth T.cl_Circle T.mt_Circle_reason Fn_Circle_reason (hr.mono (by decide)) T.b_Circle_reason dfl_nil (pel_var (i := 0)) (pal_cons (pel_var (i := 4)) (pal_cons (pel_var (i := 5)) pal_nil))) pal_nil))))))
  (pssl_one (psl_ret (pel_callTy (cl_tuple) rfl T.n_tuple (by decide +kernel) (pal_cons (pel_lc (own := [("row", 9)]) rfl sc_broken.nd (pil_val (pel_var (i := 8))) (blkOk_by (N := N_broken) (sc := defScope s_broken) (by decide +kernel)) (fun _ _ _ _ _ => (pgl_name (i := 9) sc_broken.nd)) (fun _ _ _ _ _ => (ptsl_one (ptl_cmp opl_notN (pel_ix ixl_seq (pel_var (i := 9)) pel_int) pel_non))) (fun _ _ _ _ _ => (pel_var (i := 9)))) pal_nil)))))))), ?_⟩
  intro S ns bs ps hc hp hns
  have hpl : ps.length ≤ 30 := hp.1
  have hnl := hc.1
  have g1 : ∀ a b c d e f g h : Option D, lComp (lIter (lFld T.C_Drawing "pairs" (lVar 1))) [4, 5] (gtTup 2 (gtCons (gtName 4) (gtCons (gtName 5) gtNil))) tYesL (lVar 4) [some (crD T.C_Circle ns bs), some (drD T.C_Drawing ps), none, none, none, none, none, none, none, none] S = .ok (.lst ((givs ps).map D.str)) S := fun _ _ _ _ _ _ _ _ => by
    unfold givs
    rw [List.map_map]
    exact comp_okL (iter_ok (fld_dr rfl) rfl) (by rw [psD_len]; omega) (comp_map (enc := pD) (f := fun p => .str p.1) trivial ps fun p hp => ⟨_, rfl, rfl⟩)
  have q1 : lAsg (gtTup 2 (gtCons (gtName 2) (gtCons (gtName 3) gtNil))) (lTup (aCons (lMeth T.C_Circle "names" 1 gn [] (lVar 0) aNil) (aCons (lComp (lIter (lFld T.C_Drawing "pairs" (lVar 1))) [4, 5] (gtTup 2 (gtCons (gtName 4) (gtCons (gtName 5) gtNil))) tYesL (lVar 4)) aNil))) [some (crD T.C_Circle ns bs), some (drD T.C_Drawing ps), none, none, none, none, none, none, none, none] S = .ok (.nx [some (crD T.C_Circle ns bs), some (drD T.C_Drawing ps), some (.tup (ns.map D.str)), some (.lst ((givs ps).map D.str)), none, none, none, none, none, none]) S :=
    asg_ok (tup_ok (acons_ok (meth_ok (d := crD T.C_Circle ns bs) (ds := []) rfl (recv_cr (by decide)) rfl rfl (Sn S ns bs)) (acons_ok (g1 none none none none none none none none) rfl)) (by simp)) rfl
  have c1 : lComp (lIter (lVar 2)) [7] (gtName 7) (tTru (lBin gNotInL (lVar 7) (lVar 3))) (lVar 7) [some (crD T.C_Circle ns bs), some (drD T.C_Drawing ps), some (.tup (ns.map D.str)), some (.lst ((givs ps).map D.str)), none, none, none, none, none, none] S = .ok (.lst []) S := by
    have h := comp_filter (chk := fun _ => True) (g := gtName 7) (tt := tTru (lBin gNotInL (lVar 7) (lVar 3))) (te := lVar 7) (ρ0 := [some (crD T.C_Circle ns bs), some (drD T.C_Drawing ps), some (.tup (ns.map D.str)), some (.lst ((givs ps).map D.str)), none, none, none, none, none, none]) (S := S) (enc := D.str) (f := D.str) (p := fun x => !decide (x ∈ givs ps)) trivial ns fun x hx => ⟨_, rfl, tru_b (bin_ok rfl rfl notInL) rfl, fun _ => rfl⟩
    rw [filter_none fun x hx => by rw [decide_eq_true (by rw [← hns]; exact hx)]; rfl] at h
    exact comp_okL (iter_ok rfl rfl) (by rw [List.length_map]; omega) h
  have c2 : lComp (lIter (lVar 3)) [7] (gtName 7) (tTru (lBin gNotInT (lVar 7) (lVar 2))) (lVar 7) [some (crD T.C_Circle ns bs), some (drD T.C_Drawing ps), some (.tup (ns.map D.str)), some (.lst ((givs ps).map D.str)), none, none, none, none, none, none] S = .ok (.lst []) S := by
    have h := comp_filter (chk := fun _ => True) (g := gtName 7) (tt := tTru (lBin gNotInT (lVar 7) (lVar 2))) (te := lVar 7) (ρ0 := [some (crD T.C_Circle ns bs), some (drD T.C_Drawing ps), some (.tup (ns.map D.str)), some (.lst ((givs ps).map D.str)), none, none, none, none, none, none]) (S := S) (enc := D.str) (f := D.str) (p := fun x => !decide (x ∈ ns)) trivial (givs ps) fun x hx => ⟨_, rfl, tru_b (bin_ok rfl rfl notInT) rfl, fun _ => rfl⟩
    rw [filter_none fun x hx => by rw [decide_eq_true (by rw [hns]; exact hx)]; rfl] at h
    have hgl : ((givs ps).map D.str).length ≤ 100000 := by unfold givs; rw [List.length_map, List.length_map]; omega
    exact comp_okL (iter_ok rfl rfl) hgl h
  have q2 := set_ok (i := 6) (bin_ok c1 c2 (show gAdd2 S (.lst []) (.lst []) = some (.lst []) from catL rfl rfl rfl (by decide)))
  have t3 : gNe S (.lst []) (.lst []) = some (.bl false) := by rfl
  have q4 : ∀ ρ : Ev, ρ[0]? = some (some (crD T.C_Circle ns bs)) → ρ[1]? = some (some (drD T.C_Drawing ps)) → ρ.length = 10 → lComp (lIter (lFld T.C_Drawing "pairs" (lVar 1))) [4, 5] (gtTup 2 (gtCons (gtName 4) (gtCons (gtName 5) gtNil))) tYesL (lTup (aCons (lVar 4) (aCons (lVar 5) (aCons (lMeth T.C_Circle "reason" 3 gr [] (lVar 0) (aCons (lVar 4) (aCons (lVar 5) aNil))) aNil)))) ρ S = .ok (.lst (ps.map (rowD bs))) S := fun ρ h0 h1 hl => by
    match ρ, h0, h1, hl with
    | [_, _, a, b, c, d, e, f, g, h], h0, h1, _ =>
      have e0 := Option.some.inj h0
      have e1 := Option.some.inj h1
      subst e0 e1
      refine comp_okL (iter_ok (fld_dr rfl) rfl) (by rw [psD_len]; omega) (comp_map (enc := pD) (f := rowD bs) trivial ps fun p hpp => ⟨_, rfl, tup_ok (acons_ok rfl (acons_ok rfl (acons_ok (meth_ok (d := crD T.C_Circle ns bs) rfl (recv_cr (by decide)) (acons_ok rfl (acons_ok rfl rfl)) rfl (Sr S ns bs p.1 p.2 hc.2.1 ?_ ?_)) rfl))) (by simp)⟩)
      · rw [hns]; exact List.mem_map_of_mem (f := fun p : Pr => p.1) hpp
      · rw [hns]; exact hp.taks hpp
  have q5 : ∀ ρ : Ev, ρ[8]? = some (some (.lst (ps.map (rowD bs)))) → ρ.length = 10 → lComp (lIter (lVar 8)) [9] (gtName 9) (tTru (lBin gNotN (lBin gIx (lVar 9) (lC (.int 2))) (lC .non))) (lVar 9) ρ S = .ok (.lst ((ps.filter fun p => !may bs p.1 p.2).map (rowD bs))) S := fun ρ h8 hl => by
    match ρ, h8, hl with
    | [a, b, c, d, e, f, g, h, _, i], h8, _ =>
      have e8 := Option.some.inj h8
      subst e8
      exact comp_okL (iter_ok rfl rfl) (by rw [List.length_map]; omega) (comp_filter (enc := rowD bs) (f := rowD bs) (p := fun p => !may bs p.1 p.2) trivial ps fun p hpp => ⟨_, rfl, tru_b (bin_ok (bin_ok rfl rfl (show gIx S (rowD bs p) (.int 2) = some (rsn bs p.1 p.2) from rfl)) rfl rfl) (by rw [rsn_may]), fun _ => rfl⟩)
  exact body_rt (seq_nx q1 (seq_nx q2 (seq_nx (if_ff (tru_b (bin_ok rfl (lst_ok rfl (by simp)) t3) rfl) rfl) (seq_nx (set_ok (q4 _ rfl rfl rfl)) (ret_ok (callb_ok (acons_ok (q5 _ rfl rfl) rfl) rfl))))))
theorem ok_keeps (T : T46 K mg) : ∃ g, FnL P w K mg base 4 T.f_keeps T.fd_keeps ["circle", "drawing"] g ∧ SKeeps T.C_Circle T.C_Drawing g := by
  obtain ⟨gn, Fn_Circle_names, Sn⟩ := ok_cnames (P := P) (w := w) (base := base) T
  obtain ⟨gb, Fn_broken, Sb⟩ := ok_broken (P := P) (w := w) (base := base) T
  refine ⟨_, Fun.okL T.F_keeps sc_keeps fun cdv A outer s H E hr =>
(pssl_cons (psl_if (ptl_cmp (opl_ne hr.units) (pel_meth0 T.cl_Circle T.mt_Circle_names Fn_Circle_names (hr.mono (by decide)) T.b_Circle_names dfl_nil (pel_var (i := 0))) (pel_callTy (cl_tuple) rfl T.n_tuple (by decide +kernel) (pal_cons (pel_lc (own := [("giver", 2), ("taker", 3)]) rfl sc_keeps.nd (pil_val (pel_fld T.cl_Drawing T.na_Drawing_pairs (pel_var (i := 1)))) (blkOk_by (N := N_keeps) (sc := defScope s_keeps) (by decide +kernel)) (fun _ _ _ _ _ => (pgl_tup (n := 2) rfl (pgsl_cons (pgl_name (i := 2) sc_keeps.nd) (pgsl_cons (pgl_name (i := 3) sc_keeps.nd) pgsl_nil)))) (fun _ _ _ _ _ => ptsl_nil) (fun _ _ _ _ _ => (pel_var (i := 2)))) pal_nil))) (pssl_one (psl_ret pel_bl)) pssl_nil)
  (pssl_one (psl_ret (pel_cmp (opl_eq hr.units) (pel_call Fn_broken (hr.mono (by decide)) rfl T.mg_broken T.F_broken.kp T.b_broken dfl_nil (pal_cons (pel_var (i := 0)) (pal_cons (pel_var (i := 1)) pal_nil))) (pel_tup pal_nil))))), ?_⟩
  intro S ns bs ps hc hp
  have hpl : ps.length ≤ 30 := hp.1
  have g1 : lComp (lIter (lFld T.C_Drawing "pairs" (lVar 1))) [2, 3] (gtTup 2 (gtCons (gtName 2) (gtCons (gtName 3) gtNil))) tYesL (lVar 2) [some (crD T.C_Circle ns bs), some (drD T.C_Drawing ps), none, none] S = .ok (.lst ((givs ps).map D.str)) S := by
    unfold givs
    rw [List.map_map]
    exact comp_okL (iter_ok (fld_dr rfl) rfl) (by rw [psD_len]; omega) (comp_map (enc := pD) (f := fun p => .str p.1) trivial ps fun p hp => ⟨_, rfl, rfl⟩)
  have oks : ∀ y ∈ givs ps, PyData.strOk y = true := fun y hy => by
    obtain ⟨p, hpp, rfl⟩ := List.mem_map.mp hy
    exact nm_ok (hp.2.1 p hpp).1
  have t1 : tTru (lBin gNe (lMeth T.C_Circle "names" 1 gn [] (lVar 0) aNil) (lCallB gTuple (aCons (lComp (lIter (lFld T.C_Drawing "pairs" (lVar 1))) [2, 3] (gtTup 2 (gtCons (gtName 2) (gtCons (gtName 3) gtNil))) tYesL (lVar 2)) aNil))) [some (crD T.C_Circle ns bs), some (drD T.C_Drawing ps), none, none] S = .ok (!decide (ns = givs ps)) S :=
    tru_b (bin_ok (meth_ok (d := crD T.C_Circle ns bs) (ds := []) rfl (recv_cr (by decide)) rfl rfl (Sn S ns bs)) (callb_ok (acons_ok g1 rfl) rfl) (ne_tstrs (fun y hy => nm_ok (hc.2.2.2.2 y hy)) oks)) rfl
  unfold kp
  by_cases h : ns = givs ps
  · rw [decide_eq_true h] at t1 ⊢
    have e := eq_rows (S := S) (bs := bs) (L := ps.filter fun p => !may bs p.1 p.2) fun p hpp => hp.2.1 p (List.mem_filter.mp hpp).1
    have e2 : (ps.filter fun p => !may bs p.1 p.2).isEmpty = (true && ps.all fun p => may bs p.1 p.2) := by
      rw [Bool.true_and]
      exact filt_all ps
    rw [e2] at e
    exact body_rt (seq_nx (if_ff t1 rfl) (ret_ok (bin_ok (call_ok (acons_ok rfl (acons_ok rfl rfl)) rfl (Sb S ns bs ps hc hp h)) (tup_ok rfl (by simp)) e)))
  · rw [decide_eq_false h] at t1 ⊢
    exact body_rt (seq_rt (if_tt t1 (ret_ok rfl)))
end
end K46

namespace K46
open PySem PySem.Spec PyProof.Rows L2 MP TL
open K06 (riP Cd cd_of cd_repr)
open K59 (Pr nm givs taks slt isL lets nm_ok sle sorted_strs cnt_nodup slt_trans slt_irrefl)
/-! ### what shows that no more years are -/
theorem zip_rise : ∀ xs : List Str, (xs.Pairwise fun a b => slt a b = true) → (xs.zip (xs.drop 1)).all (fun q => slt q.1 q.2) = true
  | [], _ => rfl
  | [_], _ => rfl
  | a :: b :: r, h => by
    have ih := zip_rise (b :: r) (List.pairwise_cons.mp h).2
    have h1 := (List.pairwise_cons.mp h).1 b (by simp)
    show (slt a b && ((b :: r).zip ((b :: r).drop 1)).all fun q => slt q.1 q.2) = true
    rw [h1, ih]
    rfl
theorem sm_small {x : Int} (h0 : -1000000 ≤ x) (h1 : x ≤ 1000000) : Sm x := by
  have b : (1000000 : Int) < 10 ^ 250 := by decide +kernel
  exact ⟨by omega, by omega⟩
def SMem (C : Addr) (g : F) : Prop := ∀ (S : Sto) (ns : List Str) (bs : List Pr) (xs : List Str), (∀ x ∈ xs, nm x = true) → (xs.Pairwise fun a b => slt a b = true) → xs.length ≤ 30 → g [crD C ns bs, .tup (xs.map D.str)] S = .ok (.bl (xs.all fun x => decide (x ∈ ns))) S
def btw (ns : List Str) (bs : List Pr) (gs ts : List Str) : Int := (gs.map fun a => (((ns.filter fun b => may bs a b).filter fun x => !decide (x ∈ ts)).length : Int)).sum
def SBtw (C : Addr) (g : F) : Prop := ∀ (S : Sto) (ns : List Str) (bs : List Pr) (gs ts : List Str), ns.Nodup → ns.length ≤ 30 → gs.length ≤ 30 → (∀ x ∈ gs, x ∈ ns) → g [crD C ns bs, .tup (gs.map D.str), .tup (ts.map D.str)] S = .ok (.int (btw ns bs gs ts)) S
/-- none, one, or one twice -/
def Shp (rs : List (List Pr)) : Prop := (rs = [] ∨ (∃ p, rs = [p]) ∨ ∃ p, rs = [p, p]) ∧ ∀ p ∈ rs, GoodP p
def yr (ns : List Str) (bs : List Pr) (rs : List (List Pr)) : Bool := rs.all (kp ns bs) && decide (rs.length ≤ 1)
def SYears (C C2 : Addr) (g : F) : Prop := ∀ (S : Sto) (ns : List Str) (bs : List Pr) (rs : List (List Pr)), GoodC ns bs → Shp rs → g [crD C ns bs, .tup (rs.map (drD C2))] S = .ok (.bl (yr ns bs rs)) S
def shw (ns : List Str) (bs : List Pr) (rs : List (List Pr)) (gs ts : List Str) : Bool := yr ns bs rs && (gs.all (fun x => decide (x ∈ ns)) && (ts.all (fun x => decide (x ∈ ns)) && decide (btw ns bs gs ts < ((rs.length : Int) + 1) * ((gs.length : Int) - (ts.length : Int)))))
def Nms (xs : List Str) : Prop := (∀ x ∈ xs, nm x = true) ∧ (xs.Pairwise fun a b => slt a b = true) ∧ xs.length ≤ 30
def SShow (C C2 : Addr) (g : F) : Prop := ∀ (S : Sto) (ns : List Str) (bs : List Pr) (rs : List (List Pr)) (gs ts : List Str), GoodC ns bs → Shp rs → Nms gs → Nms ts → g [crD C ns bs, .tup (rs.map (drD C2)), .tup (gs.map D.str), .tup (ts.map D.str)] S = .ok (.bl (shw ns bs rs gs ts)) S
theorem isi_dr {C : Addr} {S : Sto} {ps : List Pr} : gIsi (tabDr C) S (drD C ps) = some (.bl true) := by
  show ((tabDr C (.obj C)).map D.bl) = _
  unfold tabDr
  dsimp only
  rw [if_pos rfl]
  rfl
theorem alike_ps : ∀ ps : List Pr, PySem.W.alikeAll (ps.map encP) (ps.map encP) = true
  | [] => by simp [PySem.W.alikeAll]
  | p :: ps => by
    have ih := alike_ps ps
    simp [PySem.W.alikeAll, PySem.W.alike, encP] at ih ⊢
    exact ih
theorem ltD_self {S : Sto} {ps : List Pr} (hp : GoodP ps) : gLtD S (.ftup (psD ps)) (.ftup (psD ps)) = some (.bl false) := by
  have e1 : toPD (.ftup (psD ps)) = some (.tuple (ps.map encP)) := by simp [toPD, toPDs_ps]
  obtain ⟨a, b⟩ := lay_ps hp.2.1
  unfold gLtD
  dsimp only [vw]
  rw [e1]
  dsimp only
  rw [if_pos ⟨by simp only [PySem.W.alike]; exact alike_ps ps, rfl, by simp only [PyData.depth]; omega⟩]
  have e2 : PySem.W.dataLt (.tuple (ps.map encP)) (.tuple (ps.map encP)) = false := lex_irrefl _
  rw [e2]
theorem din_bar {S : Sto} {k : Nat} {bs : List Pr} {q : Pr} (h : S[k]? = some (.dct true (barK bs))) : gDin S (pD q) (.ref k) = some (.bl (decide (q ∈ bs))) := by
  unfold gDin
  have e : vw S (.ref k) = .dct true (barK bs) := by unfold vw; dsimp only; rw [h]
  rw [e]
  show some (D.bl (lookD true (barK bs) [.inr q.1, .inr q.2]).isSome) = _
  rw [look_bar]
theorem put_bar {bs : List Pr} {q : Pr} (h : q ∉ bs) : putDD true (barK bs) [.inr q.1, .inr q.2] (.bl true) = barK (bs ++ [q]) := by
  unfold putDD
  rw [look_bar, if_neg (by rw [decide_eq_false h]; exact Bool.false_ne_true)]
  unfold barK
  rw [List.map_append]
  rfl
theorem GoodP.nd {ps : List Pr} (h : GoodP ps) : ps.Nodup := by
  have h2 := h.2.2.2.1
  unfold givs at h2
  exact (List.pairwise_map.mp h2).imp fun {a b} q e => q (by rw [e])
section
variable {P : Program} {w : World} {K : PySem.W.Frag} {mg : Str → Option Value} {base : Heap}
theorem ok_mem (T : T46 K mg) : ∃ g, FnL P w K mg base 2 T.f_are_members T.fd_are_members ["circle", "thing"] g ∧ SMem T.C_Circle g := by
  obtain ⟨gi, Fn_is_name, Si⟩ := ok_name (P := P) (w := w) (base := base) T
  obtain ⟨gn, Fn_Circle_names, Sn⟩ := ok_cnames (P := P) (w := w) (base := base) T
  refine ⟨_, Fun.okL T.F_are_members sc_are_members fun cdv A outer s H E hr =>
(pssl_cons (psl_if (PWL.pt (pwl_or (ptl_not (ptl_truth (pel_isi rfl T.n_isinstance (pel_var (i := 1)) (pe_bltn rfl T.n_tuple (v := .ty "tuple") (u := .type "tuple") (by decide +kernel) rfl) (.ty _) isi_tupleA))) (pwl_or1 (ptl_not (ptl_truth (pel_callB (cl_all rfl) rfl T.n_all (by decide +kernel) (pal_cons (pel_lc (own := [("one", 2)]) rfl sc_are_members.nd (pil_val (pel_var (i := 1))) (blkOk_by (N := N_are_members) (sc := defScope s_are_members) (by decide +kernel)) (fun _ _ _ _ _ => (pgl_name (i := 2) sc_are_members.nd)) (fun _ _ _ _ _ => ptsl_nil) (fun _ _ _ _ _ => (pel_call Fn_is_name (hr.mono (by decide)) rfl T.mg_is_name T.F_is_name.kp T.b_is_name dfl_nil (pal_cons (pel_var (i := 2)) pal_nil)))) pal_nil))))))) (pssl_one (psl_ret pel_bl)) pssl_nil)
  (pssl_cons (psl_if (ptl_not (ptl_truth (pel_callB (cl_all rfl) rfl T.n_all (by decide +kernel) (pal_cons (pel_lc (own := [("one", 2), ("other", 3)]) rfl sc_are_members.nd (pil_zip rfl T.n_zip (pal_cons (pel_var (i := 1)) (pal_cons (pel_slice sll_any (pel_var (i := 1)) (pol_some pel_int) pol_none) pal_nil))) (blkOk_by (N := N_are_members) (sc := defScope s_are_members) (by decide +kernel)) (fun _ _ _ _ _ => (pgl_tup (n := 2) rfl (pgsl_cons (pgl_name (i := 2) sc_are_members.nd) (pgsl_cons (pgl_name (i := 3) sc_are_members.nd) pgsl_nil)))) (fun _ _ _ _ _ => ptsl_nil) (fun _ _ _ _ _ => (pel_cmp (opl_lt2 hr.units) (pel_var (i := 2)) (pel_var (i := 3))))) pal_nil)))) (pssl_one (psl_ret pel_bl)) pssl_nil)
  (pssl_cons (psl_set (i := 4) sc_are_members.nd (pel_meth0 T.cl_Circle T.mt_Circle_names Fn_Circle_names (hr.mono (by decide)) T.b_Circle_names dfl_nil (pel_var (i := 0))))
  (pssl_one (psl_ret (pel_callB (cl_all rfl) rfl T.n_all (by decide +kernel) (pal_cons (pel_lc (own := [("one", 2)]) rfl sc_are_members.nd (pil_val (pel_var (i := 1))) (blkOk_by (N := N_are_members) (sc := defScope s_are_members) (by decide +kernel)) (fun _ _ _ _ _ => (pgl_name (i := 2) sc_are_members.nd)) (fun _ _ _ _ _ => ptsl_nil) (fun _ _ _ _ _ => (pel_cmp opl_inT (pel_var (i := 2)) (pel_var (i := 4))))) pal_nil))))))), ?_⟩
  intro S ns bs xs hx hr hl
  have c1 : lComp (lIter (lVar 1)) [2] (gtName 2) tYesL (lCall 1 gi [] (aCons (lVar 2) aNil)) [some (crD T.C_Circle ns bs), some (.tup (xs.map D.str)), none, none, none] S = .ok (.lst (xs.map fun x => D.bl (nm x))) S :=
    comp_okL (iter_ok rfl rfl) (by rw [List.length_map]; omega) (comp_map (enc := D.str) (f := fun x => D.bl (nm x)) trivial xs fun x hxx => ⟨_, rfl, call_ok (acons_ok rfl rfl) rfl (Si S (.str x) (decide_eq_true (Nat.le_trans (nm_len (hx x hxx)) (by decide))))⟩)
  have a1 : gAll S [.lst (xs.map fun x => D.bl (nm x))] = some (.bl true) := by
    rw [all_ok nm xs, List.all_eq_true.mpr hx]
  have hz : lZip (aCons (lVar 1) (aCons (lSlice gSlice (lVar 1) (oSome (lC (.int 1))) oNone) aNil)) [some (crD T.C_Circle ns bs), some (.tup (xs.map D.str)), none, none, none] S = .ok ⟨(xs.zip (xs.drop 1)).map pD, fun _ => True⟩ S := by
    refine zip_ok (acons_ok rfl (acons_ok (slice_ok rfl (osome_ok rfl) rfl (show gSlice S (.tup (xs.map D.str)) (some 1) none = some (.tup ((xs.drop 1).map D.str)) from ?_)) rfl)) ?_
    · show some (D.tup (MP.cutD (xs.map D.str) (some 1) none)) = _
      rw [cut1, List.map_drop]
    · show some (zipD (xs.map D.str) ((xs.drop 1).map D.str)) = _
      rw [zip_lst]
      rfl
  have c2 : lComp (lZip (aCons (lVar 1) (aCons (lSlice gSlice (lVar 1) (oSome (lC (.int 1))) oNone) aNil))) [2, 3] (gtTup 2 (gtCons (gtName 2) (gtCons (gtName 3) gtNil))) tYesL (lBin gLt2 (lVar 2) (lVar 3)) [some (crD T.C_Circle ns bs), some (.tup (xs.map D.str)), none, none, none] S = .ok (.lst ((xs.zip (xs.drop 1)).map fun q => D.bl (slt q.1 q.2))) S :=
    comp_okL hz (by rw [List.length_map, List.length_zip]; omega) (comp_map (enc := pD) (f := fun q => D.bl (slt q.1 q.2)) trivial _ fun q hq => ⟨_, rfl, bin_ok rfl rfl rfl⟩)
  have a2 : gAll S [.lst ((xs.zip (xs.drop 1)).map fun q => D.bl (slt q.1 q.2))] = some (.bl true) := by
    rw [all_ok (fun q : Pr => slt q.1 q.2), zip_rise xs hr]
  have c3 : lComp (lIter (lVar 1)) [2] (gtName 2) tYesL (lBin gInT (lVar 2) (lVar 4)) [some (crD T.C_Circle ns bs), some (.tup (xs.map D.str)), none, none, some (.tup (ns.map D.str))] S = .ok (.lst (xs.map fun x => D.bl (decide (x ∈ ns)))) S :=
    comp_okL (iter_ok rfl rfl) (by rw [List.length_map]; omega) (comp_map (enc := D.str) (f := fun x => D.bl (decide (x ∈ ns))) trivial xs fun x hxx => ⟨_, rfl, bin_ok rfl rfl inT⟩)
  exact body_rt (seq_nx (if_ff (or_ff (not_ok (b := true) (tru_b (isi_ok rfl rfl) rfl)) (not_ok (b := true) (tru_b (callb_ok (acons_ok c1 rfl) a1) rfl))) rfl) (seq_nx (if_ff (not_ok (b := true) (tru_b (callb_ok (acons_ok c2 rfl) a2) rfl)) rfl)
    (seq_nx (set_ok (meth_ok (d := crD T.C_Circle ns bs) (ds := []) rfl (recv_cr (by decide)) rfl rfl (Sn S ns bs))) (ret_ok (callb_ok (acons_ok c3 rfl) (all_ok (fun x => decide (x ∈ ns)) xs))))))
theorem ok_btw (T : T46 K mg) : ∃ g, FnL P w K mg base 4 T.f_pairs_between T.fd_pairs_between ["circle", "givers", "takers"] g ∧ SBtw T.C_Circle g := by
  obtain ⟨gt, Fn_Circle_takers, St⟩ := ok_takers (P := P) (w := w) (base := base) T
  refine ⟨_, Fun.okL T.F_pairs_between sc_pairs_between fun cdv A outer s H E hr =>
(pssl_one (psl_ret (pel_callB (cl_sum rfl) rfl T.n_sum (by decide +kernel) (pal_cons (pel_lc (own := [("name", 4)]) rfl sc_pairs_between.nd (pil_val (pel_var (i := 1))) (blkOk_by (N := N_pairs_between) (sc := defScope s_pairs_between) (by decide +kernel)) (fun _ _ _ _ _ => (pgl_name (i := 4) sc_pairs_between.nd)) (fun _ _ _ _ _ => ptsl_nil) (fun _ _ _ _ _ => (pel_callB (cl_len) rfl T.n_len (by decide +kernel) (pal_cons (pel_lc (own := [("one", 3)]) rfl sc_pairs_between.nd (pil_val (pel_meth T.cl_Circle T.mt_Circle_takers Fn_Circle_takers (hr.mono (by decide)) T.b_Circle_takers dfl_nil (pel_var (i := 0)) (pal_cons (pel_var (i := 4)) pal_nil))) (blkOk_by (N := N_pairs_between) (sc := { kind := ScopeKind.function, names := [(Str.ofString ".0", NameKind.local), (Str.ofString "name", NameKind.local), (Str.ofString "len", NameKind.globalImplicit), (Str.ofString "circle", NameKind.cell), (Str.ofString "takers", NameKind.cell)], isGenerator := false, isCoroutine := false }) (by decide +kernel)) (fun _ _ _ _ _ => (pgl_name (i := 3) sc_pairs_between.nd)) (fun _ _ _ _ _ => (ptsl_one (ptl_cmp opl_notInT (pel_var (i := 3)) (pel_var (i := 2))))) (fun _ _ _ _ _ => (pel_var (i := 3)))) pal_nil)))) pal_nil)))), ?_⟩
  intro S ns bs gs ts hn hl hg hs
  have c1 : lComp (lIter (lVar 1)) [4] (gtName 4) tYesL (lCallB gLen (aCons (lComp (lIter (lMeth T.C_Circle "takers" 2 gt [] (lVar 0) (aCons (lVar 4) aNil))) [3] (gtName 3) (tTru (lBin gNotInT (lVar 3) (lVar 2))) (lVar 3)) aNil)) [some (crD T.C_Circle ns bs), some (.tup (gs.map D.str)), some (.tup (ts.map D.str)), none, none] S = .ok (.lst ((gs.map fun a => (((ns.filter fun b => may bs a b).filter fun x => !decide (x ∈ ts)).length : Int)).map D.int)) S := by
    rw [List.map_map]
    refine comp_okL (iter_ok rfl rfl) (by rw [List.length_map]; omega) (comp_map (enc := D.str) (f := fun a => D.int (((ns.filter fun b => may bs a b).filter fun x => !decide (x ∈ ts)).length : Int)) trivial gs fun a ha => ⟨_, rfl, ?_⟩)
    have hfl : ((ns.filter fun b => may bs a b).map D.str).length ≤ 100000 := by
      rw [List.length_map]
      exact Nat.le_trans (List.length_filter_le _ _) (by omega)
    refine callb_ok (acons_ok (comp_okL (iter_ok (meth_ok (d := crD T.C_Circle ns bs) rfl (recv_cr (by decide)) (acons_ok rfl rfl) rfl (St S ns bs a hn hl (hs a ha))) rfl) hfl (comp_filter (enc := D.str) (f := D.str) (p := fun x => !decide (x ∈ ts)) trivial _ fun x hx => ⟨_, rfl, tru_b (bin_ok rfl rfl notInT) rfl, fun _ => rfl⟩)) rfl) ?_
    show some (D.int ((((ns.filter fun b => may bs a b).filter fun x => !decide (x ∈ ts)).map D.str).length : Int)) = _
    rw [List.length_map]
  refine body_rt (ret_ok (callb_ok (acons_ok c1 rfl) ?_))
  show (intsOf _).map _ = _
  rw [intsOf_map]
  rfl
theorem ok_years (T : T46 K mg) : ∃ g, FnL P w K mg base 5 T.f_are_years T.fd_are_years ["circle", "thing"] g ∧ SYears T.C_Circle T.C_Drawing g := by
  obtain ⟨gk, Fn_keeps, Sk⟩ := ok_keeps (P := P) (w := w) (base := base) T
  refine ⟨_, FnL.gc (Fun.okL T.F_are_years sc_are_years fun cdv A outer s H E hr =>
(pssl_cons (psl_if (PWL.pt (pwl_or (ptl_not (ptl_truth (pel_isi rfl T.n_isinstance (pel_var (i := 1)) (pe_bltn rfl T.n_tuple (v := .ty "tuple") (u := .type "tuple") (by decide +kernel) rfl) (.ty _) isi_tupleA))) (pwl_or1 (ptl_not (ptl_truth (pel_callB (cl_all rfl) rfl T.n_all (by decide +kernel) (pal_cons (pel_lc (own := [("one", 2)]) rfl sc_are_years.nd (pil_val (pel_var (i := 1))) (blkOk_by (N := N_are_years) (sc := defScope s_are_years) (by decide +kernel)) (fun _ _ _ _ _ => (pgl_name (i := 2) sc_are_years.nd)) (fun _ _ _ _ _ => ptsl_nil) (fun _ _ _ _ _ => (pel_and (pel_isi rfl T.n_isinstance (pel_var (i := 2)) (pe_glob rfl T.mg_Drawing (v := .ref T.C_Drawing) rfl) (.own _) T.isi_Drawing) (pel_one (pel_call Fn_keeps (hr.mono (by decide)) rfl T.mg_keeps T.F_keeps.kp T.b_keeps dfl_nil (pal_cons (pel_var (i := 0)) (pal_cons (pel_var (i := 2)) pal_nil))))))) pal_nil))))))) (pssl_one (psl_ret pel_bl)) pssl_nil)
  (pssl_cons (psl_setLc (i := 3) (own := [("one", 2)]) sc_are_years.nd rfl (sw_true rfl rfl rfl (by decide +kernel)) rfl (pil_val (pel_var (i := 1))) (blkOk_by (N := N_are_years) (sc := defScope s_are_years) (by decide +kernel)) (.inl rfl) (fun _ _ _ _ _ => (pgl_name (i := 2) sc_are_years.nd)) (fun _ _ _ _ _ => ptsl_nil) (fun _ _ _ _ _ => (pel_fld T.cl_Drawing T.na_Drawing_pairs (pel_var (i := 2)))))
  (pssl_cons (psl_if (ptl_not (ptl_truth (pel_callB (cl_all rfl) rfl T.n_all (by decide +kernel) (pal_cons (pel_lc (own := [("one", 2), ("other", 4)]) rfl sc_are_years.nd (pil_zip rfl T.n_zip (pal_cons (pel_var (i := 3)) (pal_cons (pel_slice sll_any (pel_var (i := 3)) (pol_some pel_int) pol_none) pal_nil))) (blkOk_by (N := N_are_years) (sc := defScope s_are_years) (by decide +kernel)) (fun _ _ _ _ _ => (pgl_tup (n := 2) rfl (pgsl_cons (pgl_name (i := 2) sc_are_years.nd) (pgsl_cons (pgl_name (i := 4) sc_are_years.nd) pgsl_nil)))) (fun _ _ _ _ _ => ptsl_nil) (fun _ _ _ _ _ => (pel_cmp (opl_ltD hr.units) (pel_var (i := 2)) (pel_var (i := 4))))) pal_nil)))) (pssl_one (psl_ret pel_bl)) pssl_nil)
  (pssl_cons (psl_set (i := 5) sc_are_years.nd pel_dctNT)
  (pssl_cons (psl_for (passes_of rfl) rfl (pil_val (pel_var (i := 3))) (pgl_name (i := 6) sc_are_years.nd) (pssl_one (psl_for (passes_of rfl) rfl (pil_val (pel_var (i := 6))) (pgl_name (i := 7) sc_are_years.nd) (pssl_cons (psl_if (ptl_cmp (opl_din hr.units) (pel_var (i := 7)) (pel_var (i := 5))) (pssl_one (psl_ret pel_bl)) pssl_nil)
  (pssl_one (psl_sub (psetl_dct hr.units) (pel_var (i := 5)) (pel_var (i := 7)) pel_bl))))))
  (pssl_one (psl_ret pel_bl)))))))), ?_⟩
  intro S ns bs rs hc ⟨hsh, hgp⟩
  have hrl : rs.length ≤ 2 := by
    rcases hsh with rfl | ⟨p, rfl⟩ | ⟨p, rfl⟩ <;> simp
  have c1 : lComp (lIter (lVar 1)) [2] (gtName 2) tYesL (lAndV (lIsi (tabDr T.C_Drawing) (lVar 2)) (lCall 2 gk [] (aCons (lVar 0) (aCons (lVar 2) aNil)))) [some (crD T.C_Circle ns bs), some (.tup (rs.map (drD T.C_Drawing))), none, none, none, none, none, none] S = .ok (.lst (rs.map fun p => D.bl (kp ns bs p))) S :=
    comp_okL (iter_ok rfl rfl) (by rw [List.length_map]; omega) (comp_map (enc := drD T.C_Drawing) (f := fun p => D.bl (kp ns bs p)) trivial rs fun p hp => ⟨_, rfl, andv_tt (d := .bl true) (isi_ok rfl isi_dr) rfl (call_ok (acons_ok rfl (acons_ok rfl rfl)) rfl (Sk S ns bs p hc (hgp p hp)))⟩)
  have t1 : MP.tOr (MP.tNot (tTru (lIsi tabTupA (lVar 1)))) (MP.tNot (tTru (lCallB gAll (aCons (lComp (lIter (lVar 1)) [2] (gtName 2) tYesL (lAndV (lIsi (tabDr T.C_Drawing) (lVar 2)) (lCall 2 gk [] (aCons (lVar 0) (aCons (lVar 2) aNil))))) aNil)))) [some (crD T.C_Circle ns bs), some (.tup (rs.map (drD T.C_Drawing))), none, none, none, none, none, none] S = .ok (!(rs.all (kp ns bs))) S :=
    or_ff (not_ok (b := true) (tru_b (isi_ok rfl rfl) rfl)) (not_ok (tru_b (callb_ok (acons_ok c1 rfl) (all_ok (kp ns bs) rs)) rfl))
  have fin : ∀ {d : D} {S' : Sto} {b : Bool}, d = .bl b → S'.take S.length = S → Okd S S' → ∀ {g : F}, g [crD T.C_Circle ns bs, .tup (rs.map (drD T.C_Drawing))] S = .ok d S' → gcF g [crD T.C_Circle ns bs, .tup (rs.map (drD T.C_Drawing))] S = .ok (.bl b) S := fun {d S' b} hd ht ho {g} h => gcF_ok (d' := .bl b) h (by rw [hd]; rfl) ht rfl ho
  unfold yr
  cases hk : rs.all (kp ns bs) with
  | false =>
    rw [hk] at t1
    exact fin rfl (by simp) (by simpa using okd_app (S := S) (l := [])) (body_rt (seq_rt (if_tt t1 (ret_ok rfl))))
  | true =>
    rw [hk] at t1
    rw [Bool.true_and]
    have c2 : lComp (lIter (lVar 1)) [2] (gtName 2) tYesL (lFld T.C_Drawing "pairs" (lVar 2)) [some (crD T.C_Circle ns bs), some (.tup (rs.map (drD T.C_Drawing))), none, none, none, none, none, none] S = .ok (.lst (rs.map fun p => D.ftup (psD p))) S :=
      comp_okL (iter_ok rfl rfl) (by rw [List.length_map]; omega) (comp_map (enc := drD T.C_Drawing) (f := fun p => D.ftup (psD p)) trivial rs fun p hp => ⟨_, rfl, fld_dr rfl⟩)
    have hz : ∀ ρ : Ev, ρ[3]? = some (some (.lst (rs.map fun p => D.ftup (psD p)))) → lZip (aCons (lVar 3) (aCons (lSlice gSlice (lVar 3) (oSome (lC (.int 1))) oNone) aNil)) ρ S = .ok ⟨zipD (rs.map fun p => D.ftup (psD p)) ((rs.drop 1).map fun p => D.ftup (psD p)), fun _ => True⟩ S := fun ρ h => by
      have v3 : lVar 3 ρ S = .ok (.lst (rs.map fun p => D.ftup (psD p))) S := by unfold lVar; rw [h]
      refine zip_ok (acons_ok v3 (acons_ok (slice_ok v3 (osome_ok rfl) rfl (show gSlice S (.lst (rs.map fun p => D.ftup (psD p))) (some 1) none = some (.lst ((rs.drop 1).map fun p => D.ftup (psD p))) from ?_)) rfl)) rfl
      show some (D.lst (MP.cutD (rs.map fun p => D.ftup (psD p)) (some 1) none)) = _
      rw [cut1, List.map_drop]
    have c3 : lComp (lZip (aCons (lVar 3) (aCons (lSlice gSlice (lVar 3) (oSome (lC (.int 1))) oNone) aNil))) [2, 4] (gtTup 2 (gtCons (gtName 2) (gtCons (gtName 4) gtNil))) tYesL (lBin gLtD (lVar 2) (lVar 4)) [some (crD T.C_Circle ns bs), some (.tup (rs.map (drD T.C_Drawing))), none, some (.lst (rs.map fun p => D.ftup (psD p))), none, none, none, none] S = .ok (.lst ((rs.drop 1).map fun _ => D.bl false)) S := by
      refine comp_okL (hz _ rfl) (by rw [zipD_length, List.length_map]; omega) ?_
      rcases hsh with rfl | ⟨p, rfl⟩ | ⟨p, rfl⟩
      · exact comp_end trivial
      · exact comp_end trivial
      · exact comp_go trivial rfl (bin_ok rfl rfl (ltD_self (hgp p (by simp)))) (comp_end trivial)
    have a3 : gAll S [.lst ((rs.drop 1).map fun _ => D.bl false)] = some (.bl (decide (rs.length ≤ 1))) := by
      rcases hsh with rfl | ⟨p, rfl⟩ | ⟨p, rfl⟩ <;> rfl
    have t3 := not_ok (tru_b (callb_ok (acons_ok (t := aNil) c3 rfl) a3) rfl)
    by_cases h1 : rs.length ≤ 1
    · rw [decide_eq_true h1] at t3 ⊢
      have go : ∀ (items done : List Pr) (S' : Sto), S'[S.length]? = some (.dct true (barK done)) → (done ++ items).Nodup → done.length + items.length ≤ 100 → S' = S ++ [.dct true (barK done)] → ∀ a b c : Option D, ∃ ρ' : Ev, forG [some (crD T.C_Circle ns bs), some (.tup (rs.map (drD T.C_Drawing))), none, some (.lst (rs.map fun p => D.ftup (psD p))), none, some (.ref S.length), a, none] (fun _ => True) (gtName 7)
          (lSeq (lIfS (tTru (lBin gDin (lVar 7) (lVar 5))) (lRet (lC (.bl false))) lNext) (lStS stDct (lVar 5) (lVar 7) (lC (.bl true)))) (psD items) [some (crD T.C_Circle ns bs), some (.tup (rs.map (drD T.C_Drawing))), none, some (.lst (rs.map fun p => D.ftup (psD p))), none, some (.ref S.length), a, none] S' = .ok (.nx [some (crD T.C_Circle ns bs), some (.tup (rs.map (drD T.C_Drawing))), none, some (.lst (rs.map fun p => D.ftup (psD p))), none, some (.ref S.length), a, none]) (S ++ [.dct true (barK (done ++ items))]) := by
        intro items
        induction items with
        | nil => intro done S' _ _ _ e a b c; exact ⟨[], by rw [List.append_nil, ← e]; exact for_end trivial⟩
        | cons q items ih =>
          intro done S' h hn hl e a b c
          have hq : q ∉ done := fun z => by
            have := (List.nodup_append.mp hn).2.2
            exact this q z q (by simp) rfl
          have tt := tru_b (b' := false) (bin_ok (ρ := [some (crD T.C_Circle ns bs), some (.tup (rs.map (drD T.C_Drawing))), none, some (.lst (rs.map fun p => D.ftup (psD p))), none, some (.ref S.length), a, some (pD q)]) (la := lVar 7) (lb := lVar 5) rfl rfl (din_bar (q := q) h)) (decide_eq_false hq)
          have e2 : stDct S' (.ref S.length) (pD q) (.bl true) = some (S ++ [.dct true (barK (done ++ [q]))]) := by
            unfold stDct
            dsimp only
            rw [h]
            dsimp only
            rw [if_pos (by unfold barK; rw [List.length_map]; exact Nat.lt_of_lt_of_le (show done.length < 1000 by simp only [List.length_cons] at hl; omega) (by decide))]
            show some (S'.set S.length (.dct true (putDD true (barK done) [.inr q.1, .inr q.2] (.bl true)))) = _
            rw [put_bar hq, e, last_set]
          obtain ⟨ρ', hrec⟩ := ih (done ++ [q]) (S ++ [.dct true (barK (done ++ [q]))]) last_at (by rw [List.append_assoc]; exact hn) (by simp only [List.length_append, List.length_cons, List.length_nil] at hl ⊢; omega) rfl a b c
          refine ⟨ρ', for_go trivial rfl (seq_nx (if_ff tt rfl) (stS_ok rfl rfl rfl e2)) ?_⟩
          rw [List.append_assoc] at hrec
          cases a with
          | none => exact hrec
          | some a => exact hrec
      have q5 : lSet 5 (lDctN true) [some (crD T.C_Circle ns bs), some (.tup (rs.map (drD T.C_Drawing))), none, some (.lst (rs.map fun p => D.ftup (psD p))), none, none, none, none] S = .ok (.nx [some (crD T.C_Circle ns bs), some (.tup (rs.map (drD T.C_Drawing))), none, some (.lst (rs.map fun p => D.ftup (psD p))), none, some (.ref S.length), none, none]) (S ++ [.dct true []]) := set_ok rfl
      have q6 : ∃ done, lFor (lIter (lVar 3)) (gtName 6) (lFor (lIter (lVar 6)) (gtName 7) (lSeq (lIfS (tTru (lBin gDin (lVar 7) (lVar 5))) (lRet (lC (.bl false))) lNext) (lStS stDct (lVar 5) (lVar 7) (lC (.bl true))))) [some (crD T.C_Circle ns bs), some (.tup (rs.map (drD T.C_Drawing))), none, some (.lst (rs.map fun p => D.ftup (psD p))), none, some (.ref S.length), none, none] (S ++ [.dct true []]) = .ok (.nx [some (crD T.C_Circle ns bs), some (.tup (rs.map (drD T.C_Drawing))), none, some (.lst (rs.map fun p => D.ftup (psD p))), none, some (.ref S.length), none, none]) (S ++ [.dct true (barK done)]) := by
        rcases hsh with rfl | ⟨p, rfl⟩ | ⟨p, rfl⟩
        · exact ⟨[], for_ok (iter_ok rfl rfl) (for_end trivial)⟩
        · obtain ⟨ρ', h⟩ := go p [] (S ++ [.dct true []]) last_at (by simpa using (hgp p (by simp)).nd) (by have := (hgp p (by simp)).1; simp; omega) rfl (some (.ftup (psD p))) none none
          exact ⟨[] ++ p, for_ok (iter_ok rfl rfl) (for_go trivial rfl (for_ok (iter_ok rfl rfl) h) (for_end trivial))⟩
        · exact absurd h1 (by simp)
      obtain ⟨done, q6⟩ := q6
      exact fin rfl (by simp) okd_app (body_rt (seq_nx (if_ff t1 rfl) (seq_nx (set_ok c2) (seq_nx (if_ff t3 rfl) (seq_nx q5 (seq_nx q6 (ret_ok rfl)))))))
    · rw [decide_eq_false h1] at t3 ⊢
      exact fin rfl (by simp) (by simpa using okd_app (S := S) (l := [])) (body_rt (seq_nx (if_ff t1 rfl) (seq_nx (set_ok c2) (seq_rt (if_tt t3 (ret_ok rfl))))))
theorem len_tup {S : Sto} {α : Type} {f : α → D} {xs : List α} : gLen S [.tup (xs.map f)] = some (.int (xs.length : Int)) := by
  show some (D.int ((xs.map f).length : Int)) = _
  rw [List.length_map]
theorem ok_show (T : T46 K mg) : ∃ g, FnL P w K mg base 6 T.f_shows_years T.fd_shows_years ["circle", "drawings", "givers", "takers"] g ∧ SShow T.C_Circle T.C_Drawing g := by
  obtain ⟨gy, Fn_are_years, Sy⟩ := ok_years (P := P) (w := w) (base := base) T
  obtain ⟨gm, Fn_are_members, Sm_⟩ := ok_mem (P := P) (w := w) (base := base) T
  obtain ⟨gb, Fn_pairs_between, Sb⟩ := ok_btw (P := P) (w := w) (base := base) T
  refine ⟨_, Fun.okL T.F_shows_years sc_shows_years fun cdv A outer s H E hr =>
(pssl_cons (psl_if (PWL.pt (pwl_or (ptl_not (ptl_truth (pel_call Fn_are_years (hr.mono (by decide)) rfl T.mg_are_years T.F_are_years.kp T.b_are_years dfl_nil (pal_cons (pel_var (i := 0)) (pal_cons (pel_var (i := 1)) pal_nil))))) (pwl_or (ptl_not (ptl_truth (pel_call Fn_are_members (hr.mono (by decide)) rfl T.mg_are_members T.F_are_members.kp T.b_are_members dfl_nil (pal_cons (pel_var (i := 0)) (pal_cons (pel_var (i := 2)) pal_nil))))) (pwl_or1 (ptl_not (ptl_truth (pel_call Fn_are_members (hr.mono (by decide)) rfl T.mg_are_members T.F_are_members.kp T.b_are_members dfl_nil (pal_cons (pel_var (i := 0)) (pal_cons (pel_var (i := 3)) pal_nil))))))))) (pssl_one (psl_ret pel_bl)) pssl_nil)
  (pssl_one (psl_ret (pel_cmp (opl_lt2 hr.units) (pel_call Fn_pairs_between (hr.mono (by decide)) rfl T.mg_pairs_between T.F_pairs_between.kp T.b_pairs_between dfl_nil (pal_cons (pel_var (i := 0)) (pal_cons (pel_var (i := 2)) (pal_cons (pel_var (i := 3)) pal_nil)))) (pel_op opl_mulX (pel_op opl_add2 (pel_callB (cl_len) rfl T.n_len (by decide +kernel) (pal_cons (pel_var (i := 1)) pal_nil)) pel_int) (pel_op opl_sub (pel_callB (cl_len) rfl T.n_len (by decide +kernel) (pal_cons (pel_var (i := 2)) pal_nil)) (pel_callB (cl_len) rfl T.n_len (by decide +kernel) (pal_cons (pel_var (i := 3)) pal_nil)))))))), ?_⟩
  intro S ns bs rs gs ts hc hsh ⟨g1, g2, g3⟩ ⟨t1, t2, t3⟩
  have ey := Sy S ns bs rs hc hsh
  have eg := Sm_ S ns bs gs g1 g2 g3
  have et := Sm_ S ns bs ts t1 t2 t3
  have hrl : rs.length ≤ 2 := by
    rcases hsh.1 with h | ⟨p, h⟩ | ⟨p, h⟩ <;> rw [h] <;> simp
  unfold shw
  cases h1 : yr ns bs rs with
  | false =>
    rw [h1] at ey
    exact body_rt (seq_rt (if_tt (or_tt (not_ok (b := false) (tru_b (call_ok (acons_ok rfl (acons_ok rfl rfl)) rfl ey) rfl))) (ret_ok rfl)))
  | true =>
    rw [h1] at ey
    rw [Bool.true_and]
    cases h2 : gs.all (fun x => decide (x ∈ ns)) with
    | false =>
      rw [h2] at eg
      exact body_rt (seq_rt (if_tt (or_ff (not_ok (b := true) (tru_b (call_ok (acons_ok rfl (acons_ok rfl rfl)) rfl ey) rfl)) (or_tt (not_ok (b := false) (tru_b (call_ok (acons_ok rfl (acons_ok rfl rfl)) rfl eg) rfl)))) (ret_ok rfl)))
    | true =>
      rw [h2] at eg
      rw [Bool.true_and]
      cases h3 : ts.all (fun x => decide (x ∈ ns)) with
      | false =>
        rw [h3] at et
        exact body_rt (seq_rt (if_tt (or_ff (not_ok (b := true) (tru_b (call_ok (acons_ok rfl (acons_ok rfl rfl)) rfl ey) rfl)) (or_ff (not_ok (b := true) (tru_b (call_ok (acons_ok rfl (acons_ok rfl rfl)) rfl eg) rfl)) (not_ok (b := false) (tru_b (call_ok (acons_ok rfl (acons_ok rfl rfl)) rfl et) rfl)))) (ret_ok rfl)))
      | true =>
        rw [h3] at et
        rw [Bool.true_and]
        have eb := Sb S ns bs gs ts hc.2.1 hc.1 g3 fun x hx => of_decide_eq_true (List.all_eq_true.mp h2 x hx)
        exact body_rt (seq_nx (if_ff (or_ff (not_ok (b := true) (tru_b (call_ok (acons_ok rfl (acons_ok rfl rfl)) rfl ey) rfl)) (or_ff (not_ok (b := true) (tru_b (call_ok (acons_ok rfl (acons_ok rfl rfl)) rfl eg) rfl)) (not_ok (b := true) (tru_b (call_ok (acons_ok rfl (acons_ok rfl rfl)) rfl et) rfl)))) rfl)
          (ret_ok (bin_ok (call_ok (acons_ok rfl (acons_ok rfl (acons_ok rfl rfl))) rfl eb) (bin_ok (bin_ok (callb_ok (acons_ok rfl rfl) len_tup) rfl add2_ii) (bin_ok (callb_ok (acons_ok rfl rfl) len_tup) (callb_ok (acons_ok rfl rfl) len_tup) rfl) (mulx_ii (sm_small (by omega) (by omega)) (sm_small (by omega) (by omega)))) rfl)))
end
end K46

namespace K46
open PySem PySem.Spec PyProof.Rows L2 MP TL
open K06 (riP Cd cd_of cd_repr)
open K59 (Pr nm givs taks slt isL lets nm_ok sle sorted_strs cnt_nodup slt_trans slt_irrefl)
/-! ### a drawn order -/
theorem ne_nilL {S : Sto} {j : Nat} {ys : List Str} (h : S[j]? = some (.lst (ys.map D.str))) (hy : ∀ y ∈ ys, PyData.strOk y = true) : gNe S (.ref j) (.lst []) = some (.bl (!ys.isEmpty)) := by
  have e1 : toPD (.lst (ys.map D.str)) = some (.list (ys.map PyData.str)) := by simp [toPD, K59.toPDs_str]
  have e : eqP S (.ref j) (.lst []) = some ys.isEmpty := by
    unfold eqP
    rw [vw_ref h]
    dsimp only [vw]
    rw [e1]
    show (if SeqAt.shaped (.list (ys.map PyData.str)) = true ∧ SeqAt.shaped (.list []) = true then some (PyData.eqv (.list (ys.map PyData.str)) (.list [])) else none) = _
    rw [if_pos ⟨K59.shaped_str hy, by decide⟩]
    cases ys <;> simp [PyData.eqv, PyData.eqvAll]
  have e0 : eqS (.ref j) (.lst []) = none := rfl
  unfold gNe eqD
  rw [e, e0]
  rfl
def STurned (g : F) : Prop := ∀ (S : Sto) (j : Nat) (ys : List Str), PotAt j S → ys.length ≤ 30 → (∀ y ∈ ys, nm y = true) → ∃ (os : List Str) (S' : Sto), g [.ref j, .lst (ys.map D.str)] S = .ok (.lst (os.map D.str)) S' ∧ PotS j S S' ∧ os.Perm ys
theorem set_a {S1 : Sto} {a b a' : O} : (S1 ++ [a] ++ [b]).set S1.length a' = S1 ++ [a'] ++ [b] := by simp
theorem set_b {S1 : Sto} {a b b' : O} : (S1 ++ [a] ++ [b]).set (S1.length + 1) b' = S1 ++ [a] ++ [b'] := by
  have e : S1.length + 1 = (S1 ++ [a]).length := by simp
  rw [e]
  exact last_set
theorem at_a {S1 : Sto} {a b : O} : (S1 ++ [a] ++ [b])[S1.length]? = some a := by simp
theorem at_b {S1 : Sto} {a b : O} : (S1 ++ [a] ++ [b])[S1.length + 1]? = some b := by
  have e : S1.length + 1 = (S1 ++ [a]).length := by simp
  rw [e]
  exact last_at
section
variable {P : Program} {w : World} {K : PySem.W.Frag} {mg : Str → Option Value} {base : Heap}
theorem ok_turned (T : T46 K mg) : ∃ g, FnL P w K mg base 2 T.f__law_turned T.fd__law_turned ["_law_pot_here", "_law_some"] g ∧ STurned g := by
  obtain ⟨gt, Fn__law_take, St0⟩ := ok_take (P := P) (w := w) (base := base) T
  have St := St0.tk
  refine ⟨_, FnL.gc (Fun.okL T.F__law_turned sc__law_turned fun cdv A outer s H E hr =>
(pssl_cons (psl_par (i := 2) (j := 3) rfl sc__law_turned.nd (pal_cons (pel_listN rfl T.n_list (by decide +kernel) (pal_cons (pel_var (i := 1)) pal_nil)) (pal_cons (pel_lstN pal_nil) pal_nil)))
  (pssl_cons (psl_while (2 ^ 4000) (passes_of rfl) (ptl_cmp (opl_ne hr.units) (pel_var (i := 2)) (pel_lst pal_nil)) (pssl_one (psl_expr (pel_append (pel_var (i := 3)) (pel_popAt (pel_var (i := 2)) (pel_call Fn__law_take (hr.mono (by decide)) rfl T.mg__law_take T.F__law_take.kp T.b__law_take dfl_nil (pal_cons (pel_var (i := 0)) (pal_cons (pel_callB (cl_len) rfl T.n_len (by decide +kernel) (pal_cons (pel_var (i := 2)) pal_nil)) pal_nil))))))))
  (pssl_one (psl_ret (pel_var (i := 3))))))), ?_⟩
  intro S j ys hp hl hn
  have e1 : lPar 2 3 (aCons (lListN (aCons (lVar 1) aNil)) (aCons (lLstN aNil) aNil)) [some (.ref j), some (.lst (ys.map D.str)), none, none] S = .ok (.nx [some (.ref j), some (.lst (ys.map D.str)), some (.ref S.length), some (.ref (S.length + 1))]) (S ++ [O.lst (ys.map D.str)] ++ [O.lst []]) := by
    have h1 : lListN (aCons (lVar 1) aNil) [some (.ref j), some (.lst (ys.map D.str)), none, none] S = .ok (.ref S.length) (S ++ [O.lst (ys.map D.str)]) := listN_ok (acons_ok rfl rfl) rfl
    have h2 : lLstN aNil [some (.ref j), some (.lst (ys.map D.str)), none, none] (S ++ [O.lst (ys.map D.str)]) = .ok (.ref (S.length + 1)) (S ++ [O.lst (ys.map D.str)] ++ [O.lst []]) := by
      have := lstN_ok (t := aNil) (ρ := [some (.ref j), some (.lst (ys.map D.str)), none, none]) (S := S ++ [O.lst (ys.map D.str)]) (ds := []) rfl (Nat.zero_le _)
      rw [this, List.length_append]
      rfl
    exact par_ok (acons_ok h1 (acons_ok h2 rfl))
  have go : ∀ (k : Nat) (rest done : List Str) (n : Nat) (S1 : Sto), rest.length = k → k < n → PotS j S S1 → rest.length + done.length ≤ 30 → (∀ y ∈ rest, nm y = true) → ∃ (S2 : Sto) (done' : List Str), whileG [some (.ref j), some (.lst (ys.map D.str)), some (.ref S.length), some (.ref (S.length + 1))] (tTru (lBin gNe (lVar 2) (lLst aNil)))
      (lExpr (lBM "list" stApp (lVar 3) (aCons (lBM "list" stPopAt (lVar 2) (aCons (lCall 2 gt [] (aCons (lVar 0) (aCons (lCallB gLen (aCons (lVar 2) aNil)) aNil))) aNil)) aNil))) n [some (.ref j), some (.lst (ys.map D.str)), some (.ref S.length), some (.ref (S.length + 1))] (S1 ++ [O.lst (rest.map D.str)] ++ [O.lst (done.map D.str)]) = .ok (.nx [some (.ref j), some (.lst (ys.map D.str)), some (.ref S.length), some (.ref (S.length + 1))]) (S2 ++ [O.lst (([] : List Str).map D.str)] ++ [O.lst (done'.map D.str)]) ∧ PotS j S S2 ∧ done'.Perm (done ++ rest) := by
    intro k
    induction k with
    | zero =>
      intro rest done n S1 hk hkn hps hll hnr
      obtain ⟨n, rfl⟩ : ∃ m, n = m + 1 := ⟨n - 1, by omega⟩
      have hr : rest = [] := List.length_eq_zero_iff.mp hk
      subst hr
      have hL : S1.length = S.length := hps.len
      have tt : tTru (lBin gNe (lVar 2) (lLst aNil)) [some (.ref j), some (.lst (ys.map D.str)), some (.ref S.length), some (.ref (S.length + 1))] (S1 ++ [O.lst (([] : List Str).map D.str)] ++ [O.lst (done.map D.str)]) = .ok false _ := tru_b (bin_ok rfl (lst_ok rfl (by simp)) (ne_nilL (ys := []) (by rw [← hL]; exact at_a) (fun y hy => nomatch hy))) rfl
      exact ⟨S1, done, while_end tt, hps, by rw [List.append_nil]⟩
    | succ k ih =>
      intro rest done n S1 hk hkn hps hll hnr
      obtain ⟨n, rfl⟩ : ∃ m, n = m + 1 := ⟨n - 1, by omega⟩
      have hL : S1.length = S.length := hps.len
      have hp1 := hps.at hp
      have hrl : S.length = S1.length := hL.symm
      have tt : tTru (lBin gNe (lVar 2) (lLst aNil)) [some (.ref j), some (.lst (ys.map D.str)), some (.ref S.length), some (.ref (S.length + 1))] (S1 ++ [O.lst (rest.map D.str)] ++ [O.lst (done.map D.str)]) = .ok true _ := tru_b (bin_ok rfl (lst_ok rfl (by simp)) (ne_nilL (ys := rest) (by rw [← hL]; exact at_a) (fun y hy => nm_ok (hnr y hy)))) (by cases rest with
        | nil => cases hk
        | cons x r => rfl)
      obtain ⟨v, X1, e2, v0, v1, pX⟩ := St (S1 ++ [O.lst (rest.map D.str)] ++ [O.lst (done.map D.str)]) j (rest.length : Int) (by rw [List.append_assoc]; exact hp1.app) (by omega) (by omega)
      rw [List.append_assoc] at pX
      obtain ⟨S2, rfl, pS2⟩ := PotS.app hp1 pX
      rw [← List.append_assoc] at e2
      have hL2 : S2.length = S.length := by rw [pS2.len, hL]
      obtain ⟨y, xs', e3, hperm⟩ := popAt_perm (S := S2 ++ [O.lst (rest.map D.str)] ++ [O.lst (done.map D.str)]) (r := S2.length) (xs := rest) at_a v0 v1 (by omega)
      rw [set_a] at e3
      have hxl : xs'.length = k := by
        have := hperm.length_eq
        simp only [List.length_cons] at this
        omega
      have e4 : stApp (S2 ++ [O.lst (xs'.map D.str)] ++ [O.lst (done.map D.str)]) (.ref (S2.length + 1)) [.str y] = some (.non, S2 ++ [O.lst (xs'.map D.str)] ++ [O.lst ((done ++ [y]).map D.str)]) := by
        rw [app_ok at_b (by rw [List.length_map]; omega), set_b, List.map_append]
        rfl
      rw [hL2] at e3 e4
      have hlen : lCallB gLen (aCons (lVar 2) aNil) [some (.ref j), some (.lst (ys.map D.str)), some (.ref S.length), some (.ref (S.length + 1))] (S1 ++ [O.lst (rest.map D.str)] ++ [O.lst (done.map D.str)]) = .ok (.int (rest.length : Int)) (S1 ++ [O.lst (rest.map D.str)] ++ [O.lst (done.map D.str)]) := callb_ok (acons_ok rfl rfl) (by rw [len_ref (by rw [← hL]; exact at_a), List.length_map])
      have hty : ∀ (A : Sto), A[S.length]? = some (.lst (rest.map D.str)) → isTy "list" A (.ref S.length) = true := fun A h => ty_lst h
      have body : lExpr (lBM "list" stApp (lVar 3) (aCons (lBM "list" stPopAt (lVar 2) (aCons (lCall 2 gt [] (aCons (lVar 0) (aCons (lCallB gLen (aCons (lVar 2) aNil)) aNil))) aNil)) aNil)) [some (.ref j), some (.lst (ys.map D.str)), some (.ref S.length), some (.ref (S.length + 1))] (S1 ++ [O.lst (rest.map D.str)] ++ [O.lst (done.map D.str)]) = .ok (.nx [some (.ref j), some (.lst (ys.map D.str)), some (.ref S.length), some (.ref (S.length + 1))]) (S2 ++ [O.lst (xs'.map D.str)] ++ [O.lst ((done ++ [y]).map D.str)]) :=
        expr_ok (bm_ok (d := .ref (S.length + 1)) rfl (ty_lst (by rw [← hL]; exact at_b)) (acons_ok (bm_ok (d := .ref S.length) rfl (ty_lst (by rw [← hL]; exact at_a)) (acons_ok (call_ok (acons_ok rfl (acons_ok hlen rfl)) rfl e2) rfl) e3) rfl) e4)
      obtain ⟨S3, done', e5, p5, q5⟩ := ih xs' (done ++ [y]) n S2 hxl (by omega) (hps.trans pS2) (by simp only [List.length_append, List.length_singleton]; omega) fun z hz => hnr z (hperm.mem_iff.mpr (by simp [hz]))
      refine ⟨S3, done', while_go tt body e5, p5, q5.trans ?_⟩
      rw [List.append_assoc]
      exact List.Perm.append_left _ hperm.symm
  obtain ⟨S2, done', e2, p2, q2⟩ := go ys.length ys [] (2 ^ 4000) S rfl (Nat.lt_of_le_of_lt hl (Nat.lt_of_lt_of_le (by decide : 30 < 2 ^ 5) (Nat.pow_le_pow_right (by decide) (by decide)))) (.refl hp) (by simpa using hl) hn
  have hL2 : S2.length = S.length := p2.len
  refine ⟨done', S2, gcF_ok (body_rt (seq_nx e1 (seq_nx e2 (ret_ok rfl)))) ?_ ?_ (below_strs done') ?_, p2, by simpa using q2⟩
  · unfold fz fz0
    dsimp only
    rw [if_neg (by omega)]
    have : vw (S2 ++ [O.lst (([] : List Str).map D.str)] ++ [O.lst (done'.map D.str)]) (.ref (S.length + 1)) = .lst (done'.map D.str) := vw_ref (by rw [← hL2]; exact at_b)
    rw [this]
  · rw [List.append_assoc, ← hL2, List.take_left]
  · rw [List.append_assoc]
    exact p2.okd
end
end K46

namespace K46
open PySem PySem.Spec PyProof.Rows L2 MP TL
open K06 (riP Cd cd_of cd_repr)
open K59 (Pr nm givs taks slt isL lets nm_ok sle sorted_strs cnt_nodup slt_trans slt_irrefl)
/-! ### the law's own look -/
def mayK (os : List Str) (my : Str → List Str) : List (D × D) := os.map fun x => (D.str x, D.lst ((my x).map D.str))
def btw2 (my : Str → List Str) (gs ts : List Str) : Int := (gs.map fun a => (((my a).filter fun x => !decide (x ∈ ts)).length : Int)).sum
def due (my : Str → List Str) (rs : List (List Pr)) (gs ts : List Str) : Bool := rs.all (fun p => p.all fun q => decide (q.2 ∈ my q.1)) && (decide (rs.length ≤ 1) && decide (btw2 my gs ts < ((rs.length : Int) + 1) * ((gs.length : Int) - (ts.length : Int))))
def SDue (C2 : Addr) (g : F) : Prop := ∀ (S : Sto) (m : Nat) (ns os : List Str) (my : Str → List Str) (rs : List (List Pr)) (gs ts : List Str), S[m]? = some (.dct false (mayK os my)) → os.Perm ns → Nms ns → ns ≠ [] → Shp rs → (∀ p ∈ rs, givs p = ns) → Nms gs → Nms ts → (∀ x ∈ gs, x ∈ ns) → (∀ x ∈ ts, x ∈ ns) → (∀ x, (my x).length ≤ 100) →
  g [.ref m, .tup (rs.map (drD C2)), .tup (gs.map D.str), .tup (ts.map D.str)] S = .ok (.bl (due my rs gs ts)) S
theorem look_may {my : Str → List Str} : ∀ {os : List Str} {x : Str}, x ∈ os → lookD false (mayK os my) [.inr x] = some (.lst ((my x).map D.str))
  | y :: os, x, h => by
    show (if kOf false (.str y) = some [.inr x] then some (D.lst ((my y).map D.str)) else lookD false (mayK os my) [.inr x]) = _
    by_cases e : y = x
    · subst e
      rw [if_pos (kof_str y)]
    · rw [if_neg (fun z => by
        rw [kof_str] at z
        injection z with z
        injection z with z _
        injection z with z
        exact e z)]
      exact look_may ((List.mem_cons.mp h).resolve_left (Ne.symm e))
theorem vw_may {S : Sto} {m : Nat} {t : Bool} {kvs : List (D × D)} (h : S[m]? = some (.dct t kvs)) : vw S (.ref m) = .dct t kvs := by unfold vw; dsimp only; rw [h]
theorem dix_may {S : Sto} {m : Nat} {os : List Str} {my : Str → List Str} {x : Str} (h : S[m]? = some (.dct false (mayK os my))) (hx : x ∈ os) : gDix S (.ref m) (.str x) = some (.lst ((my x).map D.str)) := by
  unfold gDix
  rw [vw_may h]
  exact look_may hx
theorem din_may {S : Sto} {m : Nat} {os : List Str} {my : Str → List Str} {x : Str} (h : S[m]? = some (.dct false (mayK os my))) (hx : x ∈ os) : gDin S (.str x) (.ref m) = some (.bl true) := by
  unfold gDin
  rw [vw_may h]
  show some (D.bl (lookD false (mayK os my) [.inr x]).isSome) = _
  rw [look_may hx]
  rfl
theorem sort_may {S : Sto} {m : Nat} {os ns : List Str} {my : Str → List Str} (h : S[m]? = some (.dct false (mayK os my))) (hp : os.Perm ns) (hn : ns.Pairwise fun a b => slt a b = true) (hl : ns.length ≤ 30) : gSortedD S [.ref m] = some (.lst (ns.map D.str)) := by
  have hs := sorted_strs S (.lst (os.map D.str)) os rfl (by rw [hp.length_eq]; omega)
  rw [sorted_of hp.symm hn] at hs
  unfold gSortedD
  dsimp only
  rw [vw_may h]
  dsimp only
  have e : (mayK os my).map (·.1) = os.map D.str := by
    unfold mayK
    rw [List.map_map]
    rfl
  rw [e]
  exact hs
theorem ne_lstrs {S : Sto} {as : List Str} (ha : ∀ y ∈ as, PyData.strOk y = true) : gNe S (.lst (as.map D.str)) (.lst (as.map D.str)) = some (.bl false) := by
  have h := eq_strs (S := S) ha ha
  rw [decide_eq_true rfl] at h
  unfold gEq at h
  cases q : eqD S (.lst (as.map D.str)) (.lst (as.map D.str)) with
  | none => rw [q] at h; cases h
  | some b =>
    rw [q] at h
    have e : b = true := by
      have := Option.some.inj h
      injection this
    unfold gNe
    rw [q, e]
    rfl
theorem inL {S : Sto} {x : Str} {ys : List Str} : gInL S (.str x) (.lst (ys.map D.str)) = some (.bl (decide (x ∈ ys))) := by
  show (strsD (ys.map D.str)).map _ = _
  rw [strsD_map]
  rfl
theorem nms_nd {xs : List Str} (h : Nms xs) : xs.Nodup := h.2.1.imp fun {a b} q e => by rw [e, slt_irrefl] at q; cases q
theorem srtS_id {xs : List Str} (h : Nms xs) : srtS xs = xs := (srtS_of (h.2.1.imp fun {a b} q => decide_eq_true (List.not_lt.mp (List.lt_asymm (of_decide_eq_true q)))) (nms_nd h) fun k => Iff.rfl).symm
theorem nubP_nd : ∀ {ps : List Pr}, ps.Nodup → nubP ps = ps
  | [], _ => rfl
  | p :: ps, h => by
    have h' := List.nodup_cons.mp h
    unfold nubP
    rw [if_neg h'.1, nubP_nd h'.2]
theorem nubP_two {p : List Pr} (h : p.Nodup) : (nubP (p ++ p)).length = p.length := by
  have h1 : (nubP (p ++ p)).Perm p := (List.perm_ext_iff_of_nodup (nodup_nubP _) h).mpr fun k => mem_nubP.trans (by simp)
  exact h1.length_eq
theorem rt_for {ρ0 ρ ρ1 : Ev} {chk : Sto → Prop} {g : GT} {lb : LS} {d e : D} {ds : List D} {S S1 : Sto} (hc : chk S) (hg : g d ρ = some ρ1) (h : lb ρ1 S = .ok (.rt e) S1) : forG ρ0 chk g lb (d :: ds) ρ S = .ok (.rt e) S1 := by
  unfold forG
  rw [if_pos hc, hg]
  show (lb ρ1 S).bind _ = _
  rw [h, bind_ok]
  rfl
def psF (p : List Pr) : D := .ftup (psD p)
theorem gsort_rows {S : Sto} {rs : List (List Pr)} (h : Shp rs) (hne : ∀ p ∈ rs, p ≠ []) : gSorted S [.lst (rs.map psF)] = some (.lst (rs.map psF)) ∧ gNe S (.lst (rs.map psF)) (.lst (rs.map psF)) = some (.bl false) := by
  have e1 : ∀ p : List Pr, toPD (psF p) = some (.tuple (p.map encP)) := fun p => by simp [psF, toPD, toPDs_ps]
  have e2 : ∀ rs : List (List Pr), toPDs (rs.map psF) = some (rs.map fun p => .tuple (p.map encP)) := by
    intro rs
    induction rs with
    | nil => rfl
    | cons p rs ih =>
      show (toPD (psF p)).bind _ = _
      rw [e1]
      show (toPDs (rs.map psF)).map _ = _
      rw [ih]
      rfl
  have lay : ∀ rs : List (List Pr), (∀ p ∈ rs, GoodP p) → PyData.canLayAll0 (rs.map fun p => PyData.tuple (p.map encP)) = true ∧ PyData.depthAll (rs.map fun p => PyData.tuple (p.map encP)) ≤ 8 := by
    intro rs
    induction rs with
    | nil => exact fun _ => ⟨rfl, by simp [PyData.depthAll]⟩
    | cons p rs ih =>
      intro h
      obtain ⟨a, b⟩ := ih fun x hx => h x (by simp [hx])
      obtain ⟨c, d⟩ := lay_ps (h p (by simp)).2.1
      refine ⟨by simp [PyData.canLayAll0, PyData.canLay0, a, c], ?_⟩
      simp only [List.map_cons, PyData.depthAll, PyData.depth]
      omega
  have en : ∀ p : List Pr, MP.encD (psF p) = .tuple (p.map encP) := fun p => by unfold MP.encD; rw [e1]; rfl
  have srt : srtOk (rs.map psF) = true := by
    unfold srtOk
    simp only [Bool.and_eq_true, List.all_eq_true, decide_eq_true_eq, Bool.or_eq_true]
    have same : ∀ x ∈ rs.map psF, ∀ y ∈ rs.map psF, x = y := fun x hx y hy => by
      rcases h.1 with rfl | ⟨p, rfl⟩ | ⟨p, rfl⟩
      · cases hx
      · simp only [List.map_cons, List.map_nil, List.mem_singleton] at hx hy
        rw [hx, hy]
      · simp only [List.map_cons, List.map_nil, List.mem_cons, List.not_mem_nil, or_false, or_self] at hx hy
        rw [hx, hy]
    have hl : rs.length ≤ 2 := by rcases h.1 with rfl | ⟨p, rfl⟩ | ⟨p, rfl⟩ <;> simp
    refine ⟨⟨⟨⟨fun x hx => ?_, fun x hx y hy => ?_⟩, .inl fun x hx => ?_⟩, fun x hx => ?_⟩, by rw [List.length_map]; exact Nat.le_trans hl (by decide)⟩
    · obtain ⟨p, hp, rfl⟩ := List.mem_map.mp hx
      rw [e1]; rfl
    · rw [same y hy x hx]
      obtain ⟨p, hp, rfl⟩ := List.mem_map.mp hx
      rw [en]
      simp only [PySem.W.alike]
      exact alike_ps p
    · obtain ⟨p, hp, rfl⟩ := List.mem_map.mp hx
      rw [en]
      have := hne p hp
      cases p with
      | nil => exact absurd rfl this
      | cons q p => rfl
    · obtain ⟨p, hp, rfl⟩ := List.mem_map.mp hx
      rw [en]
      obtain ⟨c, d⟩ := lay_ps (h.2 p hp).2.1
      simp only [PyData.depth]
      omega
  constructor
  · unfold gSorted
    dsimp only [vw]
    rw [if_pos srt]
    rcases h.1 with rfl | ⟨p, rfl⟩ | ⟨p, rfl⟩
    · rw [List.map_nil, List.mergeSort_nil]
    · rw [List.map_cons, List.map_nil, List.mergeSort_singleton]
    · have e : ([psF p, psF p] : List D).mergeSort leD = [psF p, psF p] := by
        have hp := List.mergeSort_perm ([psF p, psF p] : List D) leD
        have hm : ∀ x ∈ ([psF p, psF p] : List D).mergeSort leD, x = psF p := fun x hx => by
          have := hp.mem_iff.mp hx
          simpa using this
        have hl := hp.length_eq
        generalize ([psF p, psF p] : List D).mergeSort leD = l at hm hl
        match l, hl with
        | [a, b], _ => rw [hm a (by simp), hm b (by simp)]
      show some (D.lst (([psF p, psF p] : List D).mergeSort leD)) = _
      rw [e]
      rfl
  · have ep : toPD (.lst (rs.map psF)) = some (.list (rs.map fun p => .tuple (p.map encP))) := by simp [toPD, e2]
    obtain ⟨a, b⟩ := lay rs h.2
    have hs : SeqAt.shaped (.list (rs.map fun p => PyData.tuple (p.map encP))) = true := by
      unfold SeqAt.shaped
      rw [Bool.and_eq_true]
      refine ⟨a, decide_eq_true ?_⟩
      simp only [PyData.depth]
      omega
    have e : eqP S (.lst (rs.map psF)) (.lst (rs.map psF)) = some true := by
      unfold eqP
      dsimp only [vw]
      rw [ep]
      show (if SeqAt.shaped (.list (rs.map fun p => PyData.tuple (p.map encP))) = true ∧ SeqAt.shaped (.list (rs.map fun p => PyData.tuple (p.map encP))) = true then some (PyData.eqv (.list (rs.map fun p => PyData.tuple (p.map encP))) (.list (rs.map fun p => PyData.tuple (p.map encP)))) else none) = _
      rw [if_pos ⟨hs, hs⟩, PySem.SeqAt.eqv_refl _ (show PyData.canLay0 (.list (rs.map fun p => PyData.tuple (p.map encP))) = true from a)]
    unfold gNe eqD
    rw [e]
    rfl
section
variable {P : Program} {w : World} {K : PySem.W.Frag} {mg : Str → Option Value} {base : Heap}
theorem ok_due (T : T46 K mg) : ∃ g, FnL P w K mg base 1 T.f__law_due T.fd__law_due ["_law_may", "_law_drawings", "_law_givers", "_law_takers"] g ∧ SDue T.C_Drawing g := by
  refine ⟨_, FnL.gc (Fun.okL T.F__law_due sc__law_due fun cdv A outer s H E hr =>
(pssl_cons (psl_par (i := 4) (j := 5) rfl sc__law_due.nd (pal_cons (pel_lc (own := [("_law_one", 6)]) rfl sc__law_due.nd (pil_val (pel_var (i := 1))) (blkOk_by (N := N__law_due) (sc := defScope s__law_due) (by decide +kernel)) (fun _ _ _ _ _ => (pgl_name (i := 6) sc__law_due.nd)) (fun _ _ _ _ _ => ptsl_nil) (fun _ _ _ _ _ => (pel_fld T.cl_Drawing T.na_Drawing_pairs (pel_var (i := 6))))) (pal_cons (pel_lstN pal_nil) pal_nil)))
  (pssl_cons (psl_for (passes_of rfl) rfl (pil_val (pel_var (i := 4))) (pgl_name (i := 7) sc__law_due.nd) (pssl_cons (psl_if (ptl_cmp (opl_ne hr.units) (pel_lc (own := [("_law_giver", 8), ("_law_taker", 9)]) rfl sc__law_due.nd (pil_val (pel_var (i := 7))) (blkOk_by (N := N__law_due) (sc := defScope s__law_due) (by decide +kernel)) (fun _ _ _ _ _ => (pgl_tup (n := 2) rfl (pgsl_cons (pgl_name (i := 8) sc__law_due.nd) (pgsl_cons (pgl_name (i := 9) sc__law_due.nd) pgsl_nil)))) (fun _ _ _ _ _ => ptsl_nil) (fun _ _ _ _ _ => (pel_var (i := 8)))) (pel_callB (cl_sortedD rfl hr.units) rfl T.n_sorted (by decide +kernel) (pal_cons (pel_var (i := 0)) pal_nil))) (pssl_one (psl_ret pel_bl)) pssl_nil)
  (pssl_cons (psl_if (ptl_not (ptl_truth (pel_callB (cl_all rfl) rfl T.n_all (by decide +kernel) (pal_cons (pel_lc (own := [("_law_giver", 8), ("_law_taker", 9)]) rfl sc__law_due.nd (pil_val (pel_var (i := 7))) (blkOk_by (N := N__law_due) (sc := defScope s__law_due) (by decide +kernel)) (fun _ _ _ _ _ => (pgl_tup (n := 2) rfl (pgsl_cons (pgl_name (i := 8) sc__law_due.nd) (pgsl_cons (pgl_name (i := 9) sc__law_due.nd) pgsl_nil)))) (fun _ _ _ _ _ => ptsl_nil) (fun _ _ _ _ _ => (pel_cmp opl_inL (pel_var (i := 9)) (pel_ix (ixl_dct hr.units) (pel_var (i := 0)) (pel_var (i := 8)))))) pal_nil)))) (pssl_one (psl_ret pel_bl)) pssl_nil)
  (pssl_one (psl_expr (pel_extend (pel_var (i := 5)) (pel_callTy (cl_list) rfl T.n_list (by decide +kernel) (pal_cons (pel_var (i := 7)) pal_nil))))))))
  (pssl_cons (psl_if (PWL.pt (pwl_or (ptl_cmp (opl_ne hr.units) (pel_var (i := 4)) (pel_callB (cl_sorted hr.units) rfl T.n_sorted (by decide +kernel) (pal_cons (pel_var (i := 4)) pal_nil))) (pwl_or1 (ptl_cmp (opl_ne hr.units) (pel_lenSetP rfl hr.units rfl T.n_len rfl T.n_set (pal_cons (pel_var (i := 5)) pal_nil)) (pel_callB (cl_len) rfl T.n_len (by decide +kernel) (pal_cons (pel_var (i := 5)) pal_nil)))))) (pssl_one (psl_ret pel_bl)) pssl_nil)
  (pssl_cons (psl_for (passes_of rfl) rfl (pil_val (pel_tup (pal_cons (pel_var (i := 2)) (pal_cons (pel_var (i := 3)) pal_nil)))) (pgl_name (i := 10) sc__law_due.nd) (pssl_one (psl_if (PWL.pt (pwl_or (ptl_cmp (opl_ne hr.units) (pel_callTy (cl_list) rfl T.n_list (by decide +kernel) (pal_cons (pel_var (i := 10)) pal_nil)) (pel_sortSetT rfl hr.units rfl T.n_sorted rfl T.n_set (pal_cons (pel_var (i := 10)) pal_nil))) (pwl_or1 (ptl_not (ptl_truth (pel_callB (cl_all rfl) rfl T.n_all (by decide +kernel) (pal_cons (pel_lc (own := [("_law_one", 6)]) rfl sc__law_due.nd (pil_val (pel_var (i := 10))) (blkOk_by (N := N__law_due) (sc := defScope s__law_due) (by decide +kernel)) (fun _ _ _ _ _ => (pgl_name (i := 6) sc__law_due.nd)) (fun _ _ _ _ _ => ptsl_nil) (fun _ _ _ _ _ => (pel_cmp (opl_din hr.units) (pel_var (i := 6)) (pel_var (i := 0))))) pal_nil))))))) (pssl_one (psl_ret pel_bl)) pssl_nil)))
  (pssl_cons (psl_set (i := 11) sc__law_due.nd (pel_callB (cl_sum rfl) rfl T.n_sum (by decide +kernel) (pal_cons (pel_lc (own := [("_law_giver", 8)]) rfl sc__law_due.nd (pil_val (pel_var (i := 2))) (blkOk_by (N := N__law_due) (sc := defScope s__law_due) (by decide +kernel)) (fun _ _ _ _ _ => (pgl_name (i := 8) sc__law_due.nd)) (fun _ _ _ _ _ => ptsl_nil) (fun _ _ _ _ _ => (pel_callB (cl_len) rfl T.n_len (by decide +kernel) (pal_cons (pel_lc (own := [("_law_one", 6)]) rfl sc__law_due.nd (pil_val (pel_ix (ixl_dct hr.units) (pel_var (i := 0)) (pel_var (i := 8)))) (blkOk_by (N := N__law_due) (sc := { kind := ScopeKind.function, names := [(Str.ofString ".0", NameKind.local), (Str.ofString "_law_giver", NameKind.local), (Str.ofString "len", NameKind.globalImplicit), (Str.ofString "_law_may", NameKind.cell), (Str.ofString "_law_takers", NameKind.cell)], isGenerator := false, isCoroutine := false }) (by decide +kernel)) (fun _ _ _ _ _ => (pgl_name (i := 6) sc__law_due.nd)) (fun _ _ _ _ _ => (ptsl_one (ptl_cmp opl_notInT (pel_var (i := 6)) (pel_var (i := 3))))) (fun _ _ _ _ _ => (pel_var (i := 6)))) pal_nil)))) pal_nil)))
  (pssl_one (psl_ret (pel_cmp (opl_lt2 hr.units) (pel_var (i := 11)) (pel_op opl_mulX (pel_op opl_add2 (pel_callB (cl_len) rfl T.n_len (by decide +kernel) (pal_cons (pel_var (i := 4)) pal_nil)) pel_int) (pel_op opl_sub (pel_callB (cl_len) rfl T.n_len (by decide +kernel) (pal_cons (pel_var (i := 2)) pal_nil)) (pel_callB (cl_len) rfl T.n_len (by decide +kernel) (pal_cons (pel_var (i := 3)) pal_nil))))))))))))), ?_⟩
  intro S m ns os my rs gs ts hm hpm hns hne hsh hgv hgs hts hgi hti hml
  have hmem : ∀ {x : Str}, x ∈ ns → x ∈ os := fun hx => hpm.mem_iff.mpr hx
  have hrl : rs.length ≤ 2 := by rcases hsh.1 with h | ⟨p, h⟩ | ⟨p, h⟩ <;> rw [h] <;> simp
  have hpne : ∀ p ∈ rs, p ≠ [] := fun p hp e => hne (by rw [← hgv p hp, e]; rfl)
  have fin : ∀ {d : D} {l : Sto} {b : Bool}, d = .bl b → ∀ {g : F}, g [.ref m, .tup (rs.map (drD T.C_Drawing)), .tup (gs.map D.str), .tup (ts.map D.str)] S = .ok d (S ++ l) → gcF g [.ref m, .tup (rs.map (drD T.C_Drawing)), .tup (gs.map D.str), .tup (ts.map D.str)] S = .ok (.bl b) S := fun {d l b} hd {g} h => gcF_ok (d' := .bl b) h (by rw [hd]; rfl) (by simp) rfl okd_app
  have mX : ∀ l : Sto, (S ++ l)[m]? = some (.dct false (mayK os my)) := fun l => by rw [List.getElem?_append_left (List.getElem?_eq_some_iff.mp hm).1]; exact hm
  obtain ⟨A0, hA0⟩ : ∃ A0, A0 = some (D.ref m) := ⟨_, rfl⟩
  have c1 : lComp (lIter (lVar 1)) [6] (gtName 6) tYesL (lFld T.C_Drawing "pairs" (lVar 6)) [some (.ref m), some (.tup (rs.map (drD T.C_Drawing))), some (.tup (gs.map D.str)), some (.tup (ts.map D.str)), none, none, none, none, none, none, none, none] S = .ok (.lst (rs.map psF)) S :=
    comp_okL (iter_ok rfl rfl) (by rw [List.length_map]; omega) (comp_map (enc := drD T.C_Drawing) (f := psF) trivial rs fun p hp => ⟨_, rfl, fld_dr rfl⟩)
  have q1 : lPar 4 5 (aCons (lComp (lIter (lVar 1)) [6] (gtName 6) tYesL (lFld T.C_Drawing "pairs" (lVar 6))) (aCons (lLstN aNil) aNil)) [some (.ref m), some (.tup (rs.map (drD T.C_Drawing))), some (.tup (gs.map D.str)), some (.tup (ts.map D.str)), none, none, none, none, none, none, none, none] S = .ok (.nx [some (.ref m), some (.tup (rs.map (drD T.C_Drawing))), some (.tup (gs.map D.str)), some (.tup (ts.map D.str)), some (.lst (rs.map psF)), some (.ref S.length), none, none, none, none, none, none]) (S ++ [.lst (psD [])]) := par_ok (acons_ok c1 (acons_ok (lstN_ok rfl (Nat.zero_le _)) rfl))
  -- one drawing's pairs
  have t1 : ∀ (p done : List Pr), p ∈ rs → tTru (lBin gNe (lComp (lIter (lVar 7)) [8, 9] (gtTup 2 (gtCons (gtName 8) (gtCons (gtName 9) gtNil))) tYesL (lVar 8)) (lCallB gSortedD (aCons (lVar 0) aNil))) [some (.ref m), some (.tup (rs.map (drD T.C_Drawing))), some (.tup (gs.map D.str)), some (.tup (ts.map D.str)), some (.lst (rs.map psF)), some (.ref S.length), none, some (psF p), none, none, none, none] (S ++ [.lst (psD done)]) = .ok false (S ++ [.lst (psD done)]) := fun p done hp => by
    have h1 : lComp (lIter (lVar 7)) [8, 9] (gtTup 2 (gtCons (gtName 8) (gtCons (gtName 9) gtNil))) tYesL (lVar 8) [some (.ref m), some (.tup (rs.map (drD T.C_Drawing))), some (.tup (gs.map D.str)), some (.tup (ts.map D.str)), some (.lst (rs.map psF)), some (.ref S.length), none, some (psF p), none, none, none, none] (S ++ [.lst (psD done)]) = .ok (.lst (ns.map D.str)) (S ++ [.lst (psD done)]) := by
      rw [← hgv p hp]
      unfold givs
      rw [List.map_map]
      exact comp_okL (iter_ok rfl rfl) (by rw [psD_len]; have := (hsh.2 p hp).1; omega) (comp_map (enc := pD) (f := fun p => .str p.1) trivial p fun p hp => ⟨_, rfl, rfl⟩)
    exact tru_b (bin_ok h1 (callb_ok (acons_ok rfl rfl) (sort_may (mX _) hpm hns.2.1 hns.2.2)) (ne_lstrs fun y hy => nm_ok (hns.1 y hy))) rfl
  have t2 : ∀ (p done : List Pr), p ∈ rs → MP.tNot (tTru (lCallB gAll (aCons (lComp (lIter (lVar 7)) [8, 9] (gtTup 2 (gtCons (gtName 8) (gtCons (gtName 9) gtNil))) tYesL (lBin gInL (lVar 9) (lBin gDix (lVar 0) (lVar 8)))) aNil))) [some (.ref m), some (.tup (rs.map (drD T.C_Drawing))), some (.tup (gs.map D.str)), some (.tup (ts.map D.str)), some (.lst (rs.map psF)), some (.ref S.length), none, some (psF p), none, none, none, none] (S ++ [.lst (psD done)]) = .ok (!(p.all fun q => decide (q.2 ∈ my q.1))) (S ++ [.lst (psD done)]) := fun p done hp => by
    have h1 : lComp (lIter (lVar 7)) [8, 9] (gtTup 2 (gtCons (gtName 8) (gtCons (gtName 9) gtNil))) tYesL (lBin gInL (lVar 9) (lBin gDix (lVar 0) (lVar 8))) [some (.ref m), some (.tup (rs.map (drD T.C_Drawing))), some (.tup (gs.map D.str)), some (.tup (ts.map D.str)), some (.lst (rs.map psF)), some (.ref S.length), none, some (psF p), none, none, none, none] (S ++ [.lst (psD done)]) = .ok (.lst (p.map fun q => D.bl (decide (q.2 ∈ my q.1)))) (S ++ [.lst (psD done)]) :=
      comp_okL (iter_ok rfl rfl) (by rw [psD_len]; have := (hsh.2 p hp).1; omega) (comp_map (enc := pD) (f := fun q => D.bl (decide (q.2 ∈ my q.1))) trivial p fun q hq => ⟨_, rfl, bin_ok rfl (bin_ok rfl rfl (dix_may (mX _) (hmem (by rw [← hgv p hp]; exact List.mem_map_of_mem (f := fun p : Pr => p.1) hq)))) inL⟩)
    exact not_ok (tru_b (callb_ok (acons_ok h1 rfl) (all_ok (fun q : Pr => decide (q.2 ∈ my q.1)) p)) rfl)
  have t3 : ∀ (p done : List Pr), p ∈ rs → done.length ≤ 100 → lExpr (lBM "list" stExt (lVar 5) (aCons (lCallB gList (aCons (lVar 7) aNil)) aNil)) [some (.ref m), some (.tup (rs.map (drD T.C_Drawing))), some (.tup (gs.map D.str)), some (.tup (ts.map D.str)), some (.lst (rs.map psF)), some (.ref S.length), none, some (psF p), none, none, none, none] (S ++ [.lst (psD done)]) = .ok (.nx [some (.ref m), some (.tup (rs.map (drD T.C_Drawing))), some (.tup (gs.map D.str)), some (.tup (ts.map D.str)), some (.lst (rs.map psF)), some (.ref S.length), none, some (psF p), none, none, none, none]) (S ++ [.lst (psD (done ++ p))]) := fun p done hp hdl => by
    refine expr_ok (bm_ok (d := .ref S.length) rfl (ty_lst last_at) (acons_ok (callb_ok (acons_ok rfl rfl) rfl) rfl) (e := .non) ?_)
    unfold stExt
    dsimp only
    rw [last_at]
    dsimp only
    rw [if_pos (by rw [psD_len, psD_len]; have := (hsh.2 p hp).1; omega), last_set]
    unfold psD
    rw [List.map_append]
  -- behind the drawings
  have rest : ∀ done : List Pr, done.length ≤ 60 → done.length = (rs.map List.length).sum → (nubP done).length = (if rs.length ≤ 1 then done.length else 0) ∨ rs.length ≤ 1 ∨ (nubP done).length ≠ done.length → True := fun _ _ _ _ => trivial
  have back : ∀ (done : List Pr), done.length ≤ 60 → ((nubP done).length = done.length ↔ rs.length ≤ 1) → ∀ lb : LS, lb = (lSeq (lIfS (MP.tOr (tTru (lBin gNe (lVar 4) (lCallB gSorted (aCons (lVar 4) aNil)))) (tTru (lBin gNe (lCallB gLenSetP (aCons (lVar 5) aNil)) (lCallB gLen (aCons (lVar 5) aNil))))) (lRet (lC (.bl false))) lNext)
      (lSeq (lFor (lIter (lTup (aCons (lVar 2) (aCons (lVar 3) aNil)))) (gtName 10) (lIfS (MP.tOr (tTru (lBin gNe (lCallB gList (aCons (lVar 10) aNil)) (lCallB gSortSetT (aCons (lVar 10) aNil)))) (MP.tNot (tTru (lCallB gAll (aCons (lComp (lIter (lVar 10)) [6] (gtName 6) tYesL (lBin gDin (lVar 6) (lVar 0))) aNil))))) (lRet (lC (.bl false))) lNext))
      (lSeq (lSet 11 (lCallB gSum (aCons (lComp (lIter (lVar 2)) [8] (gtName 8) tYesL (lCallB gLen (aCons (lComp (lIter (lBin gDix (lVar 0) (lVar 8))) [6] (gtName 6) (tTru (lBin gNotInT (lVar 6) (lVar 3))) (lVar 6)) aNil))) aNil)))
        (lRet (lBin gLt2 (lVar 11) (lBin gMulX (lBin gAdd2 (lCallB gLen (aCons (lVar 4) aNil)) (lC (.int 1))) (lBin gSub (lCallB gLen (aCons (lVar 2) aNil)) (lCallB gLen (aCons (lVar 3) aNil))))))))) → 
      lb [some (.ref m), some (.tup (rs.map (drD T.C_Drawing))), some (.tup (gs.map D.str)), some (.tup (ts.map D.str)), some (.lst (rs.map psF)), some (.ref S.length), none, none, none, none, none, none] (S ++ [.lst (psD done)]) = .ok (.rt (.bl (decide (rs.length ≤ 1) && decide (btw2 my gs ts < ((rs.length : Int) + 1) * ((gs.length : Int) - (ts.length : Int)))))) (S ++ [.lst (psD done)]) := fun done hdl hnub lb hlb => by
    subst hlb
    obtain ⟨X, hX⟩ : ∃ X, X = S ++ [O.lst (psD done)] := ⟨_, rfl⟩
    have hmX : X[m]? = some (.dct false (mayK os my)) := by rw [hX]; exact mX _
    have hE : X[S.length]? = some (.lst (psD done)) := by rw [hX]; exact last_at
    rw [← hX]
    have u1 : tTru (lBin gNe (lVar 4) (lCallB gSorted (aCons (lVar 4) aNil))) [some (.ref m), some (.tup (rs.map (drD T.C_Drawing))), some (.tup (gs.map D.str)), some (.tup (ts.map D.str)), some (.lst (rs.map psF)), some (.ref S.length), none, none, none, none, none, none] X = .ok false X := tru_b (bin_ok rfl (callb_ok (acons_ok rfl rfl) (gsort_rows hsh hpne).1) (gsort_rows hsh hpne).2) rfl
    have u2 : tTru (lBin gNe (lCallB gLenSetP (aCons (lVar 5) aNil)) (lCallB gLen (aCons (lVar 5) aNil))) [some (.ref m), some (.tup (rs.map (drD T.C_Drawing))), some (.tup (gs.map D.str)), some (.tup (ts.map D.str)), some (.lst (rs.map psF)), some (.ref S.length), none, none, none, none, none, none] X = .ok (!decide (rs.length ≤ 1)) X := by
      have h1 : gLenSetP X [.ref S.length] = some (.int ((nubP done).length : Int)) := by
        unfold gLenSetP
        dsimp only
        rw [vw_ref hE]
        dsimp only
        rw [show psOf (psD done) = some done from psOf_map done]
        dsimp only
        rw [if_pos (by omega)]
      have h2 : gLen X [.ref S.length] = some (.int (done.length : Int)) := by rw [len_ref hE, psD_len]
      refine tru_b (bin_ok (callb_ok (acons_ok rfl rfl) h1) (callb_ok (acons_ok rfl rfl) h2) ne_ii) ?_
      congr 1
      rw [decide_eq_decide]
      constructor
      · exact fun h => hnub.mp (by omega)
      · exact fun h => by rw [hnub.mpr h]
    by_cases h1 : rs.length ≤ 1
    · rw [decide_eq_true h1] at u2 ⊢
      rw [Bool.true_and]
      have one : ∀ xs : List Str, Nms xs → (∀ x ∈ xs, x ∈ ns) → lIfS (MP.tOr (tTru (lBin gNe (lCallB gList (aCons (lVar 10) aNil)) (lCallB gSortSetT (aCons (lVar 10) aNil)))) (MP.tNot (tTru (lCallB gAll (aCons (lComp (lIter (lVar 10)) [6] (gtName 6) tYesL (lBin gDin (lVar 6) (lVar 0))) aNil))))) (lRet (lC (.bl false))) lNext [some (.ref m), some (.tup (rs.map (drD T.C_Drawing))), some (.tup (gs.map D.str)), some (.tup (ts.map D.str)), some (.lst (rs.map psF)), some (.ref S.length), none, none, none, none, some (.tup (xs.map D.str)), none] X = .ok (.nx [some (.ref m), some (.tup (rs.map (drD T.C_Drawing))), some (.tup (gs.map D.str)), some (.tup (ts.map D.str)), some (.lst (rs.map psF)), some (.ref S.length), none, none, none, none, some (.tup (xs.map D.str)), none]) X := fun xs hx hi => by
        have h1 : gSortSetT X [.tup (xs.map D.str)] = some (.lst (xs.map D.str)) := by
          unfold gSortSetT
          dsimp only
          rw [strsD_map]
          dsimp only
          rw [if_pos (by have := hx.2.2; omega), srtS_id hx]
        have h2 : lComp (lIter (lVar 10)) [6] (gtName 6) tYesL (lBin gDin (lVar 6) (lVar 0)) [some (.ref m), some (.tup (rs.map (drD T.C_Drawing))), some (.tup (gs.map D.str)), some (.tup (ts.map D.str)), some (.lst (rs.map psF)), some (.ref S.length), none, none, none, none, some (.tup (xs.map D.str)), none] X = .ok (.lst (xs.map fun _ => D.bl true)) X :=
          comp_okL (iter_ok rfl rfl) (by rw [List.length_map]; have := hx.2.2; omega) (comp_map (enc := D.str) (f := fun _ => D.bl true) trivial xs fun x hxx => ⟨_, rfl, bin_ok rfl rfl (din_may hmX (hmem (hi x hxx)))⟩)
        have h3 : gAll X [.lst (xs.map fun _ => D.bl true)] = some (.bl true) := by
          rw [all_ok (fun _ : Str => true) xs, List.all_eq_true.mpr fun _ _ => rfl]
        exact if_ff (or_ff (tru_b (bin_ok (callb_ok (acons_ok rfl rfl) rfl) (callb_ok (acons_ok rfl rfl) h1) (ne_lstrs fun y hy => nm_ok (hx.1 y hy))) rfl) (not_ok (b := true) (tru_b (callb_ok (acons_ok h2 rfl) h3) rfl))) rfl
      have c5 : lComp (lIter (lVar 2)) [8] (gtName 8) tYesL (lCallB gLen (aCons (lComp (lIter (lBin gDix (lVar 0) (lVar 8))) [6] (gtName 6) (tTru (lBin gNotInT (lVar 6) (lVar 3))) (lVar 6)) aNil)) [some (.ref m), some (.tup (rs.map (drD T.C_Drawing))), some (.tup (gs.map D.str)), some (.tup (ts.map D.str)), some (.lst (rs.map psF)), some (.ref S.length), none, none, none, none, none, none] X = .ok (.lst ((gs.map fun a => (((my a).filter fun x => !decide (x ∈ ts)).length : Int)).map D.int)) X := by
        rw [List.map_map]
        refine comp_okL (iter_ok rfl rfl) (by rw [List.length_map]; have := hgs.2.2; omega) (comp_map (enc := D.str) (f := fun a => D.int (((my a).filter fun x => !decide (x ∈ ts)).length : Int)) trivial gs fun a ha => ⟨_, rfl, ?_⟩)
        refine callb_ok (acons_ok (comp_okL (iter_ok (bin_ok rfl rfl (dix_may hmX (hmem (hgi a ha)))) rfl) (by rw [List.length_map]; have := hml a; omega) (comp_filter (enc := D.str) (f := D.str) (p := fun x => !decide (x ∈ ts)) trivial _ fun x hx => ⟨_, rfl, tru_b (bin_ok rfl rfl notInT) rfl, fun _ => rfl⟩)) rfl) ?_
        show some (D.int ((((my a).filter fun x => !decide (x ∈ ts)).map D.str).length : Int)) = _
        rw [List.length_map]
      have s5 : gSum X [.lst ((gs.map fun a => (((my a).filter fun x => !decide (x ∈ ts)).length : Int)).map D.int)] = some (.int (btw2 my gs ts)) := by
        show (intsOf _).map _ = _
        rw [intsOf_map]
        rfl
      have hg30 := hgs.2.2
      have ht30 := hts.2.2
      have lr : gLen X [.lst (rs.map psF)] = some (.int (rs.length : Int)) := by
        show some (D.int ((rs.map psF).length : Int)) = _
        rw [List.length_map]
      exact seq_nx (if_ff (or_ff u1 u2) rfl) (seq_nx (for_ok (iter_ok (tup_ok (acons_ok rfl (acons_ok rfl rfl)) (by simp)) rfl) (for_go trivial rfl (one gs hgs hgi) (for_go trivial rfl (one ts hts hti) (for_end trivial))))
        (seq_nx (set_ok (callb_ok (acons_ok c5 rfl) s5)) (ret_ok (bin_ok rfl (bin_ok (bin_ok (callb_ok (acons_ok rfl rfl) lr) rfl add2_ii) (bin_ok (callb_ok (acons_ok rfl rfl) len_tup) (callb_ok (acons_ok rfl rfl) len_tup) rfl) (mulx_ii (sm_small (by omega) (by omega)) (sm_small (by omega) (by omega)))) rfl))))
    · rw [decide_eq_false h1] at u2 ⊢
      exact seq_rt (if_tt (or_ff u1 u2) (ret_ok rfl))
  unfold due
  rcases hsh.1 with rfl | ⟨p, rfl⟩ | ⟨p, rfl⟩
  · exact fin rfl (body_rt (seq_nx q1 (seq_nx (for_ok (iter_ok rfl rfl) (for_end trivial)) (back [] (by decide) ⟨fun _ => by decide, fun _ => rfl⟩ _ rfl))))
  · have hp : p ∈ [p] := by simp
    cases ha : p.all fun q => decide (q.2 ∈ my q.1) with
    | false =>
      have e2 := t2 p [] hp
      rw [ha] at e2
      have e : ([p].all fun p => p.all fun q => decide (q.2 ∈ my q.1)) = false := by simp only [List.all_cons, List.all_nil, ha]; rfl
      rw [e]
      exact fin rfl (body_rt (seq_nx q1 (seq_rt (for_ok (iter_ok rfl rfl) (rt_for trivial rfl (seq_nx (if_ff (t1 p [] hp) rfl) (seq_rt (if_tt e2 (ret_ok rfl)))))))))
    | true =>
      have e2 := t2 p [] hp
      rw [ha] at e2
      have e : ([p].all fun p => p.all fun q => decide (q.2 ∈ my q.1)) = true := by simp only [List.all_cons, List.all_nil, ha]; rfl
      rw [e, Bool.true_and]
      exact fin rfl (body_rt (seq_nx q1 (seq_nx (for_ok (iter_ok rfl rfl) (for_go trivial rfl (seq_nx (if_ff (t1 p [] hp) rfl) (seq_nx (if_ff e2 rfl) (t3 p [] hp (by simp)))) (for_end trivial))) (back ([] ++ p) (by have := (hsh.2 p hp).1; simp; omega) ⟨fun _ => by simp, fun _ => by rw [List.nil_append, nubP_nd (hsh.2 p hp).nd]⟩ _ rfl))))
  · have hp : p ∈ [p, p] := by simp
    cases ha : p.all fun q => decide (q.2 ∈ my q.1) with
    | false =>
      have e2 := t2 p [] hp
      rw [ha] at e2
      have e : ([p, p].all fun p => p.all fun q => decide (q.2 ∈ my q.1)) = false := by simp only [List.all_cons, List.all_nil, ha]; rfl
      rw [e]
      exact fin rfl (body_rt (seq_nx q1 (seq_rt (for_ok (iter_ok rfl rfl) (rt_for trivial rfl (seq_nx (if_ff (t1 p [] hp) rfl) (seq_rt (if_tt e2 (ret_ok rfl)))))))))
    | true =>
      have e2 := t2 p [] hp
      have e3 := t2 p ([] ++ p) hp
      rw [ha] at e2 e3
      have e : ([p, p].all fun p => p.all fun q => decide (q.2 ∈ my q.1)) = true := by simp only [List.all_cons, List.all_nil, ha]; rfl
      rw [e, Bool.true_and]
      have hl := (hsh.2 p hp).1
      have hp0 : 0 < p.length := List.length_pos_iff.mpr (hpne p hp)
      exact fin rfl (body_rt (seq_nx q1 (seq_nx (for_ok (iter_ok rfl rfl) (for_go trivial rfl (seq_nx (if_ff (t1 p [] hp) rfl) (seq_nx (if_ff e2 rfl) (t3 p [] hp (by simp)))) (for_go trivial rfl (seq_nx (if_ff (t1 p ([] ++ p) hp) rfl) (seq_nx (if_ff e3 rfl) (t3 p ([] ++ p) hp (by simp; omega)))) (for_end trivial)))) (back (([] ++ p) ++ p) (by simp; omega) ⟨fun h => by
        rw [List.nil_append, nubP_two (hsh.2 p hp).nd, List.length_append] at h
        omega, fun h => absurd h (by simp)⟩ _ rfl))))
end
end K46

namespace K46
open PySem PySem.Spec PyProof.Rows L2 MP TL
open K06 (riP Cd cd_of cd_repr pair_rise)
open K59 (Pr nm givs taks slt isL lets nm_ok sle sorted_strs cnt_nodup slt_trans slt_irrefl slt_ne)
/-! ### the plain law -/
theorem good_sorted {L : List Pr} (hl : L.length ≤ 30) (hn : ∀ p ∈ L, nmP p) (hg : (givs L).Nodup) (ht : (taks L).Perm (givs L)) : GoodP (L.mergeSort leP) := by
  have hpm := List.mergeSort_perm L leP
  have hr := sort_rise hg
  have h1 : (givs (L.mergeSort leP)).Perm (givs L) := hpm.map (fun p : Pr => p.1)
  have h2 : (taks (L.mergeSort leP)).Perm (taks L) := hpm.map (fun p : Pr => p.2)
  refine ⟨by rw [hpm.length_eq]; exact hl, fun p hp => hn p (hpm.mem_iff.mp hp), pair_rise _ hr, h1.nodup_iff.mpr hg, sorted_of ?_ hr⟩
  exact (h1.trans ht.symm).trans h2.symm
theorem le_slt {a b : Str} (h : slt a b = true) : decide (a.cps.toList ≤ b.cps.toList) = true := decide_eq_true (List.not_lt.mp (List.lt_asymm (of_decide_eq_true h)))
theorem pw_nd {xs : List Str} (h : xs.Pairwise fun a b => slt a b = true) : xs.Nodup := h.imp fun {a b} q e => by rw [e, slt_irrefl] at q; cases q
theorem pw_eq {xs ys : List Str} (h1 : xs.Pairwise fun a b => slt a b = true) (h2 : ys.Pairwise fun a b => slt a b = true) (h : ∀ k, k ∈ xs ↔ k ∈ ys) : xs = ys :=
  (srtS_of (h1.imp fun {a b} q => le_slt q) (pw_nd h1) fun k => Iff.rfl).trans ((srtS_of (h2.imp fun {a b} q => le_slt q) (pw_nd h2) fun k => (h k).symm).symm)
theorem srtS_pw (ys : List Str) : (srtS ys).Pairwise fun a b => slt a b = true := by
  have hp := List.mergeSort_perm (nubS ys) leS
  have hn : (srtS ys).Nodup := hp.nodup_iff.mpr (nodup_nub ys)
  have hs : (srtS ys).Pairwise fun a b => leS a b = true := List.pairwise_mergeSort (le := leS) (fun a b c h1 h2 => decide_eq_true (List.le_trans (of_decide_eq_true h1) (of_decide_eq_true h2))) (fun a b => by
    rw [Bool.or_eq_true]
    exact (List.le_total a.cps.toList b.cps.toList).imp decide_eq_true decide_eq_true) _
  refine (List.pairwise_and_iff.mpr ⟨hs, hn⟩).imp fun {a b} q => ?_
  rcases lt_tri q.2 with z | z
  · exact decide_eq_true z
  · exact absurd (of_decide_eq_true q.1) (List.not_le.mpr z)
theorem mem_srtS {ys : List Str} {k : Str} : k ∈ srtS ys ↔ k ∈ ys := (List.mergeSort_perm (nubS ys) leS).mem_iff.trans mem_nub
theorem len_srtS (ys : List Str) : (srtS ys).length ≤ ys.length := by
  unfold srtS
  rw [List.length_mergeSort]
  exact len_nub ys
/-! one ring -/
def rot (os : List Str) : List Str := os.drop 1 ++ os.take 1
def rng (os : List Str) : List Pr := os.zip (rot os)
theorem rng_giv (os : List Str) : givs (rng os) = os := (ring_pairs os).1
theorem rng_tak (os : List Str) : (taks (rng os)).Perm os := (ring_pairs os).2
theorem rng_len (os : List Str) : (rng os).length = os.length := by
  have h := congrArg List.length (rng_giv os)
  unfold givs at h
  rw [List.length_map] at h
  exact h
theorem rng_mem {os : List Str} {p : Pr} (h : p ∈ rng os) : p.1 ∈ os ∧ p.2 ∈ os := by
  constructor
  · rw [← rng_giv os]; exact List.mem_map_of_mem (f := fun p : Pr => p.1) h
  · exact (rng_tak os).mem_iff.mp (List.mem_map_of_mem (f := fun p : Pr => p.2) h)
theorem rng_ne {os : List Str} (hn : os.Nodup) (hl : 2 ≤ os.length) {p : Pr} (h : p ∈ rng os) : p.1 ≠ p.2 := by
  obtain ⟨i, hi⟩ := List.getElem?_of_mem h
  unfold rng rot at hi
  rw [List.getElem?_zip_eq_some] at hi
  obtain ⟨h1, h2⟩ := hi
  have hil := (List.getElem?_eq_some_iff.mp h1).1
  intro e
  by_cases hc : i + 1 < os.length
  · rw [List.getElem?_append_left (by rw [List.length_drop]; omega), List.getElem?_drop] at h2
    rw [e] at h1
    have := (List.getElem?_inj hil hn).mp (h1.trans h2.symm)
    omega
  · rw [List.getElem?_append_right (by rw [List.length_drop]; omega), List.length_drop] at h2
    have e0 : i - (os.length - 1) = 0 := by omega
    rw [e0, List.getElem?_take, if_pos (by decide)] at h2
    rw [e] at h1
    have := (List.getElem?_inj hil hn).mp (h1.trans h2.symm)
    omega
def my0 (os : List Str) (x : Str) : List Str := (((rng os).find? fun p => decide (p.1 = x)).map fun p => [p.2]).getD []
theorem find_nd : ∀ {ps : List Pr} {p : Pr}, p ∈ ps → (givs ps).Nodup → (ps.find? fun q => decide (q.1 = p.1)) = some p
  | q :: ps, p, h, hn => by
    have hn' : q.1 ∉ givs ps ∧ (givs ps).Nodup := List.nodup_cons.mp hn
    rcases List.mem_cons.mp h with rfl | h
    · simp
    · have hne : q.1 ≠ p.1 := fun e => hn'.1 (by rw [e]; exact List.mem_map_of_mem (f := fun p : Pr => p.1) h)
      rw [List.find?_cons, decide_eq_false hne]
      exact find_nd h hn'.2
theorem my0_at {os : List Str} (hn : os.Nodup) {p : Pr} (h : p ∈ rng os) : my0 os p.1 = [p.2] := by
  unfold my0
  rw [find_nd h (by rw [rng_giv]; exact hn)]
  rfl
theorem my0_len1 (os : List Str) (x : Str) : (my0 os x).length ≤ 1 := by
  unfold my0
  cases (rng os).find? fun p => decide (p.1 = x) with
  | none => exact Nat.zero_le _
  | some p => exact Nat.le_refl _
theorem my0_len (os : List Str) (x : Str) : (my0 os x).length ≤ 100 := by
  unfold my0
  cases (rng os).find? fun p => decide (p.1 = x) with
  | none => exact Nat.zero_le _
  | some p => show 1 ≤ 100; decide
theorem my0_K {os : List Str} (hn : os.Nodup) : mayK os (my0 os) = (rng os).map fun p => (D.str p.1, D.lst [D.str p.2]) := by
  have e : mayK os (my0 os) = mayK (givs (rng os)) (my0 os) := by rw [rng_giv]
  rw [e]
  unfold mayK givs
  rw [List.map_map]
  refine List.map_congr_left fun p hp => ?_
  show (D.str p.1, D.lst ((my0 os p.1).map D.str)) = _
  rw [my0_at hn hp]
  rfl
/-- what holds of whom each may take -/
structure May (ns os : List Str) (my : Str → List Str) : Prop where
  pw : ∀ x ∈ ns, (my x).Pairwise fun a b => slt a b = true
  sub : ∀ x ∈ ns, ∀ y ∈ my x, y ∈ ns
  own : ∀ x ∈ ns, x ∉ my x
  ring : ∀ p ∈ rng os, p.2 ∈ my p.1
  len : ∀ x, (my x).length ≤ 100
  fst : ∀ a b r, os = a :: b :: r → my a = [b]
theorem may_0 {ns os : List Str} (hp : os.Perm ns) (hn : os.Nodup) (hl : 2 ≤ os.length) : May ns os (my0 os) := by
  have hx : ∀ x ∈ ns, ∃ p ∈ rng os, p.1 = x := fun x hx => by
    have : x ∈ givs (rng os) := by rw [rng_giv]; exact hp.mem_iff.mpr hx
    obtain ⟨p, hp, e⟩ := List.mem_map.mp this
    exact ⟨p, hp, e⟩
  refine ⟨fun x h => ?_, fun x h y hy => ?_, fun x h hy => ?_, fun p h => ?_, my0_len os, fun a b r e => ?_⟩
  · obtain ⟨p, hp, rfl⟩ := hx x h
    rw [my0_at hn hp]
    exact List.pairwise_singleton _ _
  · obtain ⟨p, hp', rfl⟩ := hx x h
    rw [my0_at hn hp', List.mem_singleton] at hy
    rw [hy]
    exact hp.mem_iff.mp (rng_mem hp').2
  · obtain ⟨p, hp', rfl⟩ := hx x h
    rw [my0_at hn hp', List.mem_singleton] at hy
    exact rng_ne hn hl hp' hy
  · rw [my0_at hn h]; simp
  · subst e
    have : ((a, b) : Pr) ∈ rng (a :: b :: r) := by simp [rng, rot]
    exact my0_at hn this
def upM (my : Str → List Str) (x : Str) (l : List Str) : Str → List Str := fun y => if y = x then l else my y
theorem may_up {ns os : List Str} {my : Str → List Str} {x : Str} {sub : List Str} (h : May ns os my) (hx : x ∈ ns) (hs : ∀ y ∈ sub, y ∈ ns ∧ y ≠ x) (hl : sub.length ≤ 30) (hfst : ∀ a b r, os = a :: b :: r → x ≠ a) (hml : (my x).length ≤ 60) : May ns os (upM my x (srtS (my x ++ sub))) := by
  have hm : ∀ y, y ∈ srtS (my x ++ sub) ↔ y ∈ my x ∨ y ∈ sub := fun y => mem_srtS.trans List.mem_append
  have e1 : upM my x (srtS (my x ++ sub)) x = srtS (my x ++ sub) := if_pos rfl
  have e2 : ∀ y, y ≠ x → upM my x (srtS (my x ++ sub)) y = my y := fun y hy => if_neg hy
  refine ⟨fun y hy => ?_, fun y hy z hz => ?_, fun y hy hz => ?_, fun p hp => ?_, fun y => ?_, fun a b r e => ?_⟩
  · by_cases c : y = x
    · subst c; rw [e1]; exact srtS_pw _
    · rw [e2 y c]; exact h.pw y hy
  · by_cases c : y = x
    · subst c
      rw [e1, hm] at hz
      exact hz.elim (h.sub y hy z) fun q => (hs z q).1
    · rw [e2 y c] at hz; exact h.sub y hy z hz
  · by_cases c : y = x
    · subst c
      rw [e1, hm] at hz
      exact hz.elim (h.own y hy) fun q => (hs y q).2 rfl
    · rw [e2 y c] at hz; exact h.own y hy hz
  · by_cases c : p.1 = x
    · rw [c, e1, hm, ← c]; exact .inl (h.ring p hp)
    · rw [e2 _ c]; exact h.ring p hp
  · by_cases c : y = x
    · subst c
      rw [e1]
      have := len_srtS (my y ++ sub)
      rw [List.length_append] at this
      omega
    · rw [e2 y c]; exact h.len y
  · rw [e2 a (Ne.symm (hfst a b r e))]
    exact h.fst a b r e
theorem up_K {os : List Str} {my : Str → List Str} {x : Str} {l : List Str} (hx : x ∈ os) : putDD false (mayK os my) [.inr x] (.lst (l.map D.str)) = mayK os (upM my x l) := by
  unfold putDD
  rw [look_may hx, if_pos (show (some (D.lst ((my x).map D.str))).isSome = true from rfl)]
  unfold mayK
  rw [List.map_map]
  refine List.map_congr_left fun y hy => ?_
  show (if kOf false (.str y) = some [.inr x] then (D.str y, D.lst (l.map D.str)) else (D.str y, D.lst ((my y).map D.str))) = (D.str y, D.lst ((upM my x l y).map D.str))
  unfold upM
  by_cases c : y = x
  · subst c
    rw [if_pos (kof_str y), if_pos rfl]
  · rw [if_neg (fun z => by
      rw [kof_str] at z
      injection z with z
      injection z with z _
      injection z with z
      exact c z), if_neg c]
/-- the bars -/
def brs (ns all : List Str) (my : Str → List Str) : List Pr := ns.flatMap fun a => (all.filter fun b => !decide (b ∈ my a)).map fun b => (a, b)
theorem mem_brs {ns all : List Str} {my : Str → List Str} {a b : Str} : (a, b) ∈ brs ns all my ↔ a ∈ ns ∧ b ∈ all ∧ b ∉ my a := by
  unfold brs
  rw [List.mem_flatMap]
  constructor
  · rintro ⟨x, hx, h⟩
    obtain ⟨y, hy, e⟩ := List.mem_map.mp h
    injection e with e1 e2
    subst e1 e2
    have h2 := List.mem_filter.mp hy
    exact ⟨hx, h2.1, by simpa using h2.2⟩
  · rintro ⟨h1, h2, h3⟩
    exact ⟨a, h1, List.mem_map.mpr ⟨b, List.mem_filter.mpr ⟨h2, by simpa using h3⟩, rfl⟩⟩
theorem brs_nd {all : List Str} {my : Str → List Str} (ha : all.Nodup) : ∀ {ns : List Str}, ns.Nodup → (brs ns all my).Nodup
  | [], _ => List.nodup_nil
  | a :: ns, h => by
    have h' := List.nodup_cons.mp h
    show ((all.filter fun b => !decide (b ∈ my a)).map (fun b => ((a, b) : Pr)) ++ brs ns all my).Nodup
    refine List.nodup_append.mpr ⟨?_, brs_nd ha h'.2, ?_⟩
    · exact List.pairwise_map.mpr ((ha.filter _).imp fun {x y} q e => q (by injection e))
    · intro p hp q hq e
      obtain ⟨b, _, rfl⟩ := List.mem_map.mp hp
      obtain ⟨c, d⟩ := q
      injection e with e1 e2
      have := (mem_brs.mp hq).1
      rw [← e1] at this
      exact h'.1 this
theorem brs_len {all : List Str} {my : Str → List Str} : ∀ ns : List Str, (brs ns all my).length ≤ ns.length * all.length
  | [] => by simp [brs]
  | a :: ns => by
    show ((all.filter fun b => !decide (b ∈ my a)).map (fun b => ((a, b) : Pr)) ++ brs ns all my).length ≤ _
    rw [List.length_append, List.length_map, List.length_cons, Nat.succ_mul]
    have h1 := List.length_filter_le (fun b => !decide (b ∈ my a)) all
    have h2 := brs_len (all := all) (my := my) ns
    omega
section
variable {ns os : List Str} {my : Str → List Str}
theorem may_of (h : May ns os my) {a b : Str} (ha : a ∈ ns) (hb : b ∈ ns) : may (brs ns ns my) a b = decide (b ∈ my a) := by
  unfold may
  by_cases c : b ∈ my a
  · have h1 : a ≠ b := fun e => h.own a ha (by rw [e] at ha ⊢; rw [e] at c; exact c)
    have h2 : ((a, b) : Pr) ∉ brs ns ns my := fun z => (mem_brs.mp z).2.2 c
    rw [decide_eq_true h1, decide_eq_false h2, decide_eq_true c]
    rfl
  · have h2 : ((a, b) : Pr) ∈ brs ns ns my := mem_brs.mpr ⟨ha, hb, c⟩
    rw [decide_eq_true h2, decide_eq_false c]
    simp
theorem tak_of (h : May ns os my) (hp : ns.Pairwise fun a b => slt a b = true) {a : Str} (ha : a ∈ ns) : (ns.filter fun b => may (brs ns ns my) a b) = my a := by
  refine pw_eq (hp.filter _) (h.pw a ha) fun k => ?_
  rw [List.mem_filter]
  constructor
  · rintro ⟨h1, h2⟩
    rw [may_of h ha h1] at h2
    exact of_decide_eq_true h2
  · intro hk
    have h1 := h.sub a ha k hk
    exact ⟨h1, by rw [may_of h ha h1]; exact decide_eq_true hk⟩
theorem kp_of (h : May ns os my) {p : List Pr} (hp : GoodP p) (hg : givs p = ns) : kp ns (brs ns ns my) p = p.all fun q => decide (q.2 ∈ my q.1) := by
  unfold kp
  rw [decide_eq_true hg.symm, Bool.true_and]
  refine Bool.eq_iff_iff.mpr ?_
  rw [List.all_eq_true, List.all_eq_true]
  have e : ∀ q ∈ p, may (brs ns ns my) q.1 q.2 = decide (q.2 ∈ my q.1) := fun q hq => may_of h (by rw [← hg]; exact List.mem_map_of_mem (f := fun p : Pr => p.1) hq) (by rw [← hg]; exact hp.taks hq)
  exact ⟨fun z q hq => by rw [← e q hq]; exact z q hq, fun z q hq => by rw [e q hq]; exact z q hq⟩
theorem btw_of (h : May ns os my) (hp : ns.Pairwise fun a b => slt a b = true) {gs ts : List Str} (hg : ∀ x ∈ gs, x ∈ ns) : btw ns (brs ns ns my) gs ts = btw2 my gs ts := by
  unfold btw btw2
  congr 1
  refine List.map_congr_left fun a ha => ?_
  rw [tak_of h hp (hg a ha)]
theorem shw_of (h : May ns os my) (hp : ns.Pairwise fun a b => slt a b = true) {rs : List (List Pr)} {gs ts : List Str} (hr : ∀ p ∈ rs, GoodP p ∧ givs p = ns) (hg : ∀ x ∈ gs, x ∈ ns) (ht : ∀ x ∈ ts, x ∈ ns) : shw ns (brs ns ns my) rs gs ts = due my rs gs ts := by
  unfold shw due yr
  have e1 : rs.all (kp ns (brs ns ns my)) = rs.all fun p => p.all fun q => decide (q.2 ∈ my q.1) := by
    refine Bool.eq_iff_iff.mpr ?_
    rw [List.all_eq_true, List.all_eq_true]
    exact ⟨fun z p hp => by rw [← kp_of h (hr p hp).1 (hr p hp).2]; exact z p hp, fun z p hp => by rw [kp_of h (hr p hp).1 (hr p hp).2]; exact z p hp⟩
  have e2 : gs.all (fun x => decide (x ∈ ns)) = true := List.all_eq_true.mpr fun x hx => decide_eq_true (hg x hx)
  have e3 : ts.all (fun x => decide (x ∈ ns)) = true := List.all_eq_true.mpr fun x hx => decide_eq_true (ht x hx)
  rw [e1, e2, e3, btw_of h hp hg, Bool.true_and, Bool.true_and, Bool.and_assoc]
theorem shw_nobody (hne : ns ≠ []) {rs : List (List Pr)} {gs ts : List Str} (hr : ∀ p ∈ rs, givs p = ns) (h : rs = [] → gs ≠ []) : shw [] [] rs gs ts = false := by
  unfold shw yr
  cases rs with
  | nil =>
    cases gs with
    | nil => exact absurd rfl (h rfl)
    | cons g gs => simp
  | cons p rs =>
    have : kp [] [] p = false := by
      unfold kp
      rw [decide_eq_false (fun e => hne (by rw [← hr p (by simp)]; exact e.symm))]
      rfl
    rw [List.all_cons, this]
    rfl
theorem first_good (hp : os.Perm ns) (hnm : ∀ y ∈ ns, nm y = true) (hpw : ns.Pairwise fun a b => slt a b = true) (hl : ns.length ≤ 30) : GoodP ((rng os).mergeSort leP) ∧ givs ((rng os).mergeSort leP) = ns := by
  have hn : os.Nodup := hp.nodup_iff.mpr (pw_nd hpw)
  have hg : (givs (rng os)).Nodup := by rw [rng_giv]; exact hn
  have hm : ∀ p ∈ rng os, nmP p := fun p h => ⟨hnm _ (hp.mem_iff.mp (rng_mem h).1), hnm _ (hp.mem_iff.mp (rng_mem h).2)⟩
  refine ⟨good_sorted (by rw [rng_len, hp.length_eq]; exact hl) hm hg ((rng_tak os).trans (by rw [rng_giv])), ?_⟩
  have hpm := List.mergeSort_perm (rng os) leP
  refine pw_eq (sort_rise hg) hpw fun k => ?_
  have h1 : (givs ((rng os).mergeSort leP)).Perm (givs (rng os)) := hpm.map (fun p : Pr => p.1)
  rw [h1.mem_iff, rng_giv, hp.mem_iff]
theorem other_good (hnm : ∀ y ∈ ns, nm y = true) (hpw : ns.Pairwise fun a b => slt a b = true) (hl : ns.length ≤ 30) : GoodP (rng ns) ∧ givs (rng ns) = ns := by
  refine ⟨⟨by rw [rng_len]; exact hl, fun p h => ⟨hnm _ (rng_mem h).1, hnm _ (rng_mem h).2⟩, pair_rise _ (by rw [rng_giv]; exact hpw), by rw [rng_giv]; exact pw_nd hpw, ?_⟩, rng_giv ns⟩
  rw [rng_giv]
  exact sorted_of (rng_tak ns).symm hpw
theorem due_first (h : May ns os my) {a b : Str} {r : List Str} (e : os = a :: b :: r) : due my [(rng os).mergeSort leP] [a] [] = true := by
  unfold due btw2
  have h1 : ([(rng os).mergeSort leP].all fun p => p.all fun q => decide (q.2 ∈ my q.1)) = true := by
    rw [List.all_cons, List.all_nil, Bool.and_true, List.all_eq_true]
    exact fun q hq => decide_eq_true (h.ring q ((List.mergeSort_perm (rng os) leP).mem_iff.mp hq))
  rw [h1, Bool.true_and]
  simp [h.fst a b r e]
end
end K46

namespace K46
open PySem PySem.Spec PyProof.Rows L2 MP TL
open K06 (riP Cd cd_of cd_repr pair_rise)
open K59 (Pr nm givs taks slt isL lets nm_ok sle sorted_strs cnt_nodup slt_trans slt_irrefl slt_ne)
/-! ### the law's walk -/
theorem pot_at {S l : Sto} {o : O} (h : Pot o) : PotAt S.length (S ++ o :: l) := ⟨o, by simp, h⟩
theorem pot_step {S l X : Sto} {o : O} (h : PotS S.length (S ++ o :: l) X) : ∃ o', Pot o' ∧ X = S ++ o' :: l := by
  obtain ⟨o', p, rfl⟩ := h
  refine ⟨o', p, ?_⟩
  rw [List.set_append_right _ _ (Nat.le_refl _), Nat.sub_self]
  rfl
theorem at1 {S l : Sto} {o a : O} : (S ++ o :: a :: l)[S.length + 1]? = some a := by
  rw [List.getElem?_append_right (Nat.le_add_right _ _), Nat.add_sub_cancel_left]
  rfl
theorem at2 {S l : Sto} {o a b : O} : (S ++ o :: a :: b :: l)[S.length + 2]? = some b := by
  rw [List.getElem?_append_right (Nat.le_add_right _ _), Nat.add_sub_cancel_left]
  rfl
theorem set1 {S l : Sto} {o a a' : O} : (S ++ o :: a :: l).set (S.length + 1) a' = S ++ o :: a' :: l := by
  rw [List.set_append_right _ _ (Nat.le_add_right _ _), Nat.add_sub_cancel_left]
  rfl
theorem set2 {S l : Sto} {o a b b' : O} : (S ++ o :: a :: b :: l).set (S.length + 2) b' = S ++ o :: a :: b' :: l := by
  rw [List.set_append_right _ _ (Nat.le_add_right _ _), Nat.add_sub_cancel_left]
  rfl
theorem rot_ok {ρ : Ev} {X : Sto} {v : Nat} {os : List Str} (h : ρ[v]? = some (some (.lst (os.map D.str)))) (hl : os.length ≤ 100) : lBin gAdd2 (lSlice gSlice (lVar v) (oSome (lC (.int 1))) oNone) (lSlice gSlice (lVar v) oNone (oSome (lC (.int 1)))) ρ X = .ok (.lst ((rot os).map D.str)) X := by
  have hv : lVar v ρ X = .ok (.lst (os.map D.str)) X := by unfold lVar; rw [h]
  have h1 : gSlice X (.lst (os.map D.str)) (some 1) none = some (.lst ((os.drop 1).map D.str)) := by
    show some (D.lst (MP.cutD (os.map D.str) (some 1) none)) = _
    rw [cutS_drop _ _ (by decide), List.map_drop]
    rfl
  have h2 : gSlice X (.lst (os.map D.str)) none (some 1) = some (.lst ((os.take 1).map D.str)) := by
    show some (D.lst (MP.cutD (os.map D.str) none (some 1))) = _
    rw [cutS_take _ _ (by decide), List.map_take]
    rfl
  refine bin_ok (slice_ok hv (osome_ok rfl) rfl h1) (slice_ok hv rfl (osome_ok rfl) h2) (catL rfl rfl ?_ ?_)
  · unfold rot
    rw [List.map_append]
  · unfold rot
    rw [List.length_map, List.length_append, List.length_drop, List.length_take]
    omega
theorem zip_rot {os : List Str} : zipOf [.lst (os.map D.str), .lst ((rot os).map D.str)] = some (psD (rng os)) := by
  show some (zipD (os.map D.str) ((rot os).map D.str)) = _
  rw [zip_lst]
  rfl
theorem kvs_rng (L : List Pr) : kvsOf (L.map fun p => D.tup [.str p.1, .lst [.str p.2]]) = some (L.map fun p => (D.str p.1, D.lst [.str p.2])) := by
  induction L with
  | nil => rfl
  | cons p L ih =>
    show (kv1 (.tup [.str p.1, .lst [.str p.2]])).bind (fun q => (kvsOf (L.map fun p => D.tup [.str p.1, .lst [.str p.2]])).map fun r => q :: r) = _
    rw [ih]
    rfl
theorem keys_rng (L : List Pr) : keysK (L.map fun p => (D.str p.1, D.lst [.str p.2])) = (givs L).map Sum.inr := by
  induction L with
  | nil => rfl
  | cons p L ih =>
    unfold keysK at ih ⊢
    rw [List.map_cons, List.filterMap_cons_some (f := fun q : D × D => keyOf q.1) (a := (D.str p.1, D.lst [.str p.2])) (b := Sum.inr p.1) rfl, ih]
    rfl
theorem dictN_ok {t : LA} {ρ : Ev} {S S1 : Sto} {xs : List D} {kvs : List (D × D)} (h : t ρ S = .ok [.lst xs] S1) (hk : kvsOf xs = some kvs) (hn : (keysK kvs).Nodup ∧ kvs.length ≤ 100000) : lDictN t ρ S = .ok (.ref S1.length) (S1 ++ [.dct false kvs]) := by
  unfold lDictN
  rw [h, bind_ok]
  dsimp only
  rw [hk]
  exact if_pos hn
theorem shell2 {n : Nat} {l2 : LS} {li : LI} {g : GT} {lb : LS} {ds : List D} {S : Sto} {it : Its'} {d : D} (h2 : li (ds.map some ++ List.replicate (n - ds.length) none) S = .ok it S) (hc : ∀ S, it.chk S)
    (ht : ∀ d ∈ it.items, ∀ S, ∃ ρ2 ρ' S', g d (ds.map some ++ List.replicate (n - ds.length) none) = some ρ2 ∧ lb ρ2 S = .ok (.nx ρ') S' ∧ wk (ds.map some ++ List.replicate (n - ds.length) none) ρ' = ds.map some ++ List.replicate (n - ds.length) none) (h3 : ∀ S, ∃ S', l2 (ds.map some ++ List.replicate (n - ds.length) none) S = .ok (.rt d) S') :
    ∃ S', bodyF n (lSeq (lFor li g lb) l2) ds S = .ok d S' := by
  have key : ∀ (items : List D) (S : Sto), (∀ d ∈ items, d ∈ it.items) → ∃ S', forG (ds.map some ++ List.replicate (n - ds.length) none) it.chk g lb items (ds.map some ++ List.replicate (n - ds.length) none) S = .ok (.nx (ds.map some ++ List.replicate (n - ds.length) none)) S' := by
    intro items
    induction items with
    | nil => exact fun S _ => ⟨S, for_end (hc S)⟩
    | cons d items ih =>
      intro S hm
      obtain ⟨ρ2, ρ', S1, h1, h2, h3⟩ := ht d (hm d (by simp)) S
      obtain ⟨S2, h5⟩ := ih S1 (fun d hd => hm d (by simp [hd]))
      exact ⟨S2, for_go (hc S) h1 h2 (by rw [h3]; exact h5)⟩
  obtain ⟨S2, e⟩ := key it.items S fun _ h => h
  obtain ⟨S3, e3⟩ := h3 S2
  exact ⟨S3, body_rt (seq_nx (for_ok h2 e) e3)⟩
abbrev Ask := List (List Pr) × List Str × List Str
def askD (C : Addr) (q : Ask) : D := .tup [.tup (q.1.map (drD C)), .tup (q.2.1.map D.str), .tup (q.2.2.map D.str)]
def SLaw (g : F) : Prop := ∀ (zs : List Int), zs.length ≤ 63 → ∃ S', g [.lst (zs.map D.int)] [] = .ok (.bl true) S'
theorem ask_ok {t1 t2 t3 : LE} {ρ : Ev} {X : Sto} {C : Addr} {q : Ask} (h1 : t1 ρ X = .ok (.tup (q.1.map (drD C))) X) (h2 : t2 ρ X = .ok (.tup (q.2.1.map D.str)) X) (h3 : t3 ρ X = .ok (.tup (q.2.2.map D.str)) X) : lTup (aCons t1 (aCons t2 (aCons t3 aNil))) ρ X = .ok (askD C q) X :=
  tup_ok (acons_ok h1 (acons_ok h2 (acons_ok h3 rfl))) (by simp)
theorem tup1 {ρ : Ev} {X : Sto} {v : Nat} {d : D} (h : ρ[v]? = some (some d)) : lTup (aCons (lVar v) aNil) ρ X = .ok (.tup [d]) X := tup_ok (acons_ok (show lVar v ρ X = .ok d X by unfold lVar; rw [h]) rfl) (by simp)
theorem tup2 {ρ : Ev} {X : Sto} {v : Nat} {d : D} (h : ρ[v]? = some (some d)) : lTup (aCons (lVar v) (aCons (lVar v) aNil)) ρ X = .ok (.tup [d, d]) X := tup_ok (acons_ok (show lVar v ρ X = .ok d X by unfold lVar; rw [h]) (acons_ok (show lVar v ρ X = .ok d X by unfold lVar; rw [h]) rfl)) (by simp)
theorem tup0 {ρ : Ev} {X : Sto} : lTup aNil ρ X = .ok (.tup []) X := tup_ok rfl (by simp)
theorem neB {S : Sto} (b : Bool) : gNe S (.bl b) (.bl b) = some (.bl false) := by
  have h : gNe S (.bl b) (.bl b) = some (.bl (!decide (b = b))) := rfl
  rw [h, decide_eq_true rfl]
  rfl
theorem nms_one {x : Str} (h : nm x = true) : Nms [x] := ⟨fun y hy => by rw [List.mem_singleton.mp hy]; exact h, List.pairwise_singleton _ _, by simp⟩
theorem nms_nil : Nms [] := ⟨(fun y hy => nomatch hy), List.Pairwise.nil, by simp⟩
theorem good_nil : GoodP [] := ⟨by decide, (fun p hp => nomatch hp), rfl, List.Pairwise.nil, (List.mergeSort_perm ([] : List Str) sle).eq_nil⟩
theorem goodC_nil : GoodC [] [] := ⟨by decide, List.nodup_nil, by decide, List.nodup_nil, (fun y hy => nomatch hy)⟩
section
variable {P : Program} {w : World} {K : PySem.W.Frag} {mg : Str → Option Value} {base : Heap}
theorem ok_law (T : T46 K mg) : ∃ g, FnL P w K mg base 8 T.f_law T.fd_law ["_law_script"] g ∧ SLaw g := by
  obtain ⟨gp, Fn__law_pot, Sp⟩ := ok_pot (P := P) (w := w) (base := base) T
  obtain ⟨gt, Fn__law_take, St0⟩ := ok_take (P := P) (w := w) (base := base) T
  have St := St0.tk
  obtain ⟨gn, Fn__law_names, Sn⟩ := ok_names (P := P) (w := w) (base := base) T
  obtain ⟨gu, Fn__law_turned, Su⟩ := ok_turned (P := P) (w := w) (base := base) T
  obtain ⟨gd, Fn__law_due, Sd⟩ := ok_due (P := P) (w := w) (base := base) T
  obtain ⟨gs, Fn_shows_years, Ss⟩ := ok_show (P := P) (w := w) (base := base) T
  obtain ⟨gi, Fn_Drawing___init__, le_Drawing⟩ := ok_init (P := P) (w := w) (base := base) T
  obtain ⟨gci, Fn_Circle___init__, le_Circle⟩ := ok_cinit (P := P) (w := w) (base := base) T
  obtain ⟨ds0, dC, bC⟩ := T.dfl
  obtain ⟨ds2, dC2, bC2⟩ := T.dfl2
  refine ⟨_, Fun.okL T.F_law sc_law fun cdv A outer s H E hr =>
(pssl_cons (psl_for (passes_of rfl) rfl (pil_range1 rfl T.n_range (pal_cons (pel_callB (cl_max2 rfl) rfl T.n_max (by decide +kernel) (pal_cons pel_int (pal_cons (pel_callB (cl_min2 rfl) rfl T.n_min (by decide +kernel) (pal_cons pel_int (pal_cons (pel_callB (cl_len) rfl T.n_len (by decide +kernel) (pal_cons (pel_var (i := 0)) pal_nil)) pal_nil))) pal_nil))) pal_nil)) (pgl_name (i := 1) sc_law.nd) (pssl_cons (psl_set (i := 2) sc_law.nd (pel_call Fn__law_pot (hr.mono (by decide)) rfl T.mg__law_pot T.F__law_pot.kp T.b__law_pot dfl_nil (pal_cons (pel_var (i := 0)) (pal_cons (pel_var (i := 1)) pal_nil))))
  (pssl_cons (psl_set (i := 3) sc_law.nd (pel_call Fn__law_names (hr.mono (by decide)) rfl T.mg__law_names T.F__law_names.kp T.b__law_names dfl_nil (pal_cons (pel_var (i := 2)) (pal_cons (pel_op opl_add2 pel_int (pel_call Fn__law_take (hr.mono (by decide)) rfl T.mg__law_take T.F__law_take.kp T.b__law_take dfl_nil (pal_cons (pel_var (i := 2)) (pal_cons pel_int pal_nil)))) pal_nil))))
  (pssl_cons (psl_asg (pel_tup (pal_cons (pel_call Fn__law_turned (hr.mono (by decide)) rfl T.mg__law_turned T.F__law_turned.kp T.b__law_turned dfl_nil (pal_cons (pel_var (i := 2)) (pal_cons (pel_var (i := 3)) pal_nil))) (pal_cons (pel_ix ixl_seq (pel_lst (pal_cons pel_int (pal_cons pel_int pal_nil))) (pel_call Fn__law_take (hr.mono (by decide)) rfl T.mg__law_take T.F__law_take.kp T.b__law_take dfl_nil (pal_cons (pel_var (i := 2)) (pal_cons pel_int pal_nil)))) pal_nil))) (pgl_tup (n := 2) rfl (pgsl_cons (pgl_name (i := 4) sc_law.nd) (pgsl_cons (pgl_name (i := 5) sc_law.nd) pgsl_nil))))
  (pssl_cons (psl_set (i := 6) sc_law.nd (pel_dictN rfl rfl T.n_dict (by decide +kernel) (pal_cons (pel_lc (own := [("_law_one", 7), ("_law_other", 8)]) rfl sc_law.nd (pil_zip rfl T.n_zip (pal_cons (pel_var (i := 4)) (pal_cons (pel_op opl_add2 (pel_slice sll_any (pel_var (i := 4)) (pol_some pel_int) pol_none) (pel_slice sll_any (pel_var (i := 4)) pol_none (pol_some pel_int))) pal_nil))) (blkOk_by (N := N_law) (sc := defScope s_law) (by decide +kernel)) (fun _ _ _ _ _ => (pgl_tup (n := 2) rfl (pgsl_cons (pgl_name (i := 7) sc_law.nd) (pgsl_cons (pgl_name (i := 8) sc_law.nd) pgsl_nil)))) (fun _ _ _ _ _ => ptsl_nil) (fun _ _ _ _ _ => (pel_tup (pal_cons (pel_var (i := 7)) (pal_cons (pel_lst (pal_cons (pel_var (i := 8)) pal_nil)) pal_nil))))) pal_nil)))
  (pssl_cons (psl_for (passes_of rfl) rfl (pil_val (pel_slice sll_any (pel_var (i := 4)) (pol_some pel_int) pol_none)) (pgl_name (i := 7) sc_law.nd) (pssl_cons (psl_setLc (i := 9) (own := [("_law_name", 10)]) sc_law.nd rfl (sw_true rfl rfl rfl (by decide +kernel)) rfl (pil_val (pel_var (i := 3))) (blkOk_by (N := N_law) (sc := defScope s_law) (by decide +kernel)) (.inl rfl) (fun _ _ _ _ _ => (pgl_name (i := 10) sc_law.nd)) (fun _ _ _ _ _ => (ptsl_one (PWL.pt (pwl_and (ptl_cmp (opl_ne hr.units) (pel_var (i := 10)) (pel_var (i := 7))) (pwl_and1 (ptl_cmp (opl_eq hr.units) (pel_call Fn__law_take (hr.mono (by decide)) rfl T.mg__law_take T.F__law_take.kp T.b__law_take dfl_nil (pal_cons (pel_var (i := 2)) (pal_cons (pel_var (i := 5)) pal_nil))) pel_int)))))) (fun _ _ _ _ _ => (pel_var (i := 10))))
  (pssl_one (psl_sub (psetl_dct hr.units) (pel_var (i := 6)) (pel_var (i := 7)) (pel_sortSet rfl hr.units rfl T.n_sorted rfl T.n_set (pal_cons (pel_op opl_add2 (pel_ix (ixl_dct hr.units) (pel_var (i := 6)) (pel_var (i := 7))) (pel_var (i := 9))) pal_nil))))))
  (pssl_cons (psl_set (i := 11) sc_law.nd (pel_lstN pal_nil))
  (pssl_cons (psl_for (passes_of rfl) rfl (pil_val (pel_var (i := 3))) (pgl_name (i := 7) sc_law.nd) (pssl_one (psl_expr (pel_extend (pel_var (i := 11)) (pel_lc (own := [("_law_other", 8)]) rfl sc_law.nd (pil_val (pel_var (i := 3))) (blkOk_by (N := N_law) (sc := defScope s_law) (by decide +kernel)) (fun _ _ _ _ _ => (pgl_name (i := 8) sc_law.nd)) (fun _ _ _ _ _ => (ptsl_one (ptl_cmp opl_notInL (pel_var (i := 8)) (pel_ix (ixl_dct hr.units) (pel_var (i := 6)) (pel_var (i := 7)))))) (fun _ _ _ _ _ => (pel_tup (pal_cons (pel_var (i := 7)) (pal_cons (pel_var (i := 8)) pal_nil)))))))))
  (pssl_cons (psl_set (i := 12) sc_law.nd (pel_make (n := 4) T.mk_Circle Fn_Circle___init__ le_Circle (hr.mono (by decide)) rfl T.mg_Circle bC2 dC2 (pal_cons (pel_callTy cl_ftuple rfl T.n_tuple (by decide +kernel) (pal_cons (pel_lc (own := [("_law_name", 10)]) rfl sc_law.nd (pil_val (pel_var (i := 3))) (blkOk_by (N := N_law) (sc := defScope s_law) (by decide +kernel)) (fun _ _ _ _ _ => (pgl_name (i := 10) sc_law.nd)) (fun _ _ _ _ _ => ptsl_nil) (fun _ _ _ _ _ => (pel_tup (pal_cons (pel_var (i := 10)) (pal_cons pel_str pal_nil))))) pal_nil)) (pal_cons (pel_callTy cl_ftuple rfl T.n_tuple (by decide +kernel) (pal_cons (pel_var (i := 11)) pal_nil)) pal_nil))))
  (pssl_cons (psl_set (i := 13) sc_law.nd (pel_make (n := 1) T.mk_Drawing Fn_Drawing___init__ le_Drawing (hr.mono (by decide)) rfl T.mg_Drawing T.b_Drawing___init__ dfl_nil (pal_cons (pel_callTy cl_ftuple rfl T.n_tuple (by decide +kernel) (pal_cons (pel_sortZip rfl hr.units rfl T.n_sorted rfl T.n_zip (pal_cons (pel_var (i := 4)) (pal_cons (pel_op opl_add2 (pel_slice sll_any (pel_var (i := 4)) (pol_some pel_int) pol_none) (pel_slice sll_any (pel_var (i := 4)) pol_none (pol_some pel_int))) pal_nil))) pal_nil)) pal_nil)))
  (pssl_cons (psl_set (i := 8) sc_law.nd (pel_make (n := 1) T.mk_Drawing Fn_Drawing___init__ le_Drawing (hr.mono (by decide)) rfl T.mg_Drawing T.b_Drawing___init__ dfl_nil (pal_cons (pel_tupZip rfl rfl T.n_tuple rfl T.n_zip (pal_cons (pel_var (i := 3)) (pal_cons (pel_op opl_add2 (pel_slice sll_any (pel_var (i := 3)) (pol_some pel_int) pol_none) (pel_slice sll_any (pel_var (i := 3)) pol_none (pol_some pel_int))) pal_nil))) pal_nil)))
  (pssl_cons (psl_asg (pel_tup (pal_cons (pel_ix ixl_seq (pel_var (i := 4)) pel_int) (pal_cons (pel_ix ixl_seq (pel_var (i := 4)) (pel_op opl_add2 pel_int (pel_call Fn__law_take (hr.mono (by decide)) rfl T.mg__law_take T.F__law_take.kp T.b__law_take dfl_nil (pal_cons (pel_var (i := 2)) (pal_cons (pel_op opl_sub (pel_callB (cl_len) rfl T.n_len (by decide +kernel) (pal_cons (pel_var (i := 4)) pal_nil)) pel_int) pal_nil))))) pal_nil))) (pgl_tup (n := 2) rfl (pgsl_cons (pgl_name (i := 7) sc_law.nd) (pgsl_cons (pgl_name (i := 14) sc_law.nd) pgsl_nil))))
  (pssl_cons (psl_if (ptl_cmp opl_notB (pel_call Fn_shows_years (hr.mono (by decide)) rfl T.mg_shows_years T.F_shows_years.kp T.b_shows_years dfl_nil (pal_cons (pel_var (i := 12)) (pal_cons (pel_tup (pal_cons (pel_var (i := 13)) pal_nil)) (pal_cons (pel_tup (pal_cons (pel_var (i := 7)) pal_nil)) (pal_cons (pel_tup pal_nil) pal_nil))))) pel_bl) (pssl_one (psl_ret pel_bl)) pssl_nil)
  (pssl_cons (psl_set (i := 15) sc_law.nd (pel_callTy (cl_tuple) rfl T.n_tuple (by decide +kernel) (pal_cons (pel_callB (cl_sorted hr.units) rfl T.n_sorted (by decide +kernel) (pal_cons (pel_lst (pal_cons (pel_var (i := 7)) (pal_cons (pel_var (i := 14)) pal_nil))) pal_nil)) pal_nil)))
  (pssl_cons (psl_set (i := 16) sc_law.nd (pel_lst (pal_cons (pel_tup (pal_cons (pel_tup (pal_cons (pel_var (i := 13)) pal_nil)) (pal_cons (pel_tup (pal_cons (pel_var (i := 7)) pal_nil)) (pal_cons (pel_tup pal_nil) pal_nil)))) (pal_cons (pel_tup (pal_cons (pel_tup pal_nil) (pal_cons (pel_tup (pal_cons (pel_var (i := 7)) pal_nil)) (pal_cons (pel_tup pal_nil) pal_nil)))) (pal_cons (pel_tup (pal_cons (pel_tup (pal_cons (pel_var (i := 13)) pal_nil)) (pal_cons (pel_tup pal_nil) (pal_cons (pel_tup pal_nil) pal_nil)))) (pal_cons (pel_tup (pal_cons (pel_tup (pal_cons (pel_var (i := 13)) pal_nil)) (pal_cons (pel_tup (pal_cons (pel_var (i := 14)) pal_nil)) (pal_cons (pel_tup pal_nil) pal_nil)))) pal_nil))))))
  (pssl_cons (psl_set (i := 16) sc_law.nd (pel_op opl_add2 (pel_var (i := 16)) (pel_lst (pal_cons (pel_tup (pal_cons (pel_tup (pal_cons (pel_var (i := 8)) pal_nil)) (pal_cons (pel_tup (pal_cons (pel_var (i := 7)) pal_nil)) (pal_cons (pel_tup pal_nil) pal_nil)))) (pal_cons (pel_tup (pal_cons (pel_tup (pal_cons (pel_var (i := 13)) pal_nil)) (pal_cons (pel_var (i := 15)) (pal_cons (pel_tup (pal_cons (pel_var (i := 14)) pal_nil)) pal_nil)))) (pal_cons (pel_tup (pal_cons (pel_tup (pal_cons (pel_var (i := 13)) (pal_cons (pel_var (i := 13)) pal_nil))) (pal_cons (pel_tup (pal_cons (pel_var (i := 7)) pal_nil)) (pal_cons (pel_tup pal_nil) pal_nil)))) pal_nil))))))
  (pssl_cons (psl_set (i := 16) sc_law.nd (pel_op opl_add2 (pel_var (i := 16)) (pel_lst (pal_cons (pel_tup (pal_cons (pel_tup (pal_cons (pel_var (i := 13)) pal_nil)) (pal_cons (pel_tup (pal_cons (pel_var (i := 7)) pal_nil)) (pal_cons (pel_tup (pal_cons (pel_var (i := 14)) pal_nil)) pal_nil)))) (pal_cons (pel_tup (pal_cons (pel_tup (pal_cons (pel_var (i := 13)) pal_nil)) (pal_cons (pel_var (i := 15)) (pal_cons (pel_tup pal_nil) pal_nil)))) (pal_cons (pel_tup (pal_cons (pel_tup (pal_cons (pel_var (i := 13)) pal_nil)) (pal_cons (pel_callTy (cl_tuple) rfl T.n_tuple (by decide +kernel) (pal_cons (pel_var (i := 3)) pal_nil)) (pal_cons (pel_tup pal_nil) pal_nil)))) pal_nil))))))
  (pssl_one (psl_for (passes_of rfl) rfl (pil_val (pel_var (i := 16))) (pgl_tup (n := 3) rfl (pgsl_cons (pgl_name (i := 9) sc_law.nd) (pgsl_cons (pgl_name (i := 17) sc_law.nd) (pgsl_cons (pgl_name (i := 18) sc_law.nd) pgsl_nil)))) (pssl_cons (psl_set (i := 19) sc_law.nd (pel_call Fn_shows_years (hr.mono (by decide)) rfl T.mg_shows_years T.F_shows_years.kp T.b_shows_years dfl_nil (pal_cons (pel_var (i := 12)) (pal_cons (pel_var (i := 9)) (pal_cons (pel_var (i := 17)) (pal_cons (pel_var (i := 18)) pal_nil))))))
  (pssl_cons (psl_if (PWL.pt (pwl_or (ptl_not (ptl_truth (pel_isi rfl T.n_isinstance (pel_var (i := 19)) (pe_bltn rfl T.n_bool (v := .ty "bool") (u := .type "bool") (by decide +kernel) rfl) (.ty _) isi_boolA))) (pwl_or1 (ptl_cmp (opl_ne hr.units) (pel_var (i := 19)) (pel_call Fn__law_due (hr.mono (by decide)) rfl T.mg__law_due T.F__law_due.kp T.b__law_due dfl_nil (pal_cons (pel_var (i := 6)) (pal_cons (pel_var (i := 9)) (pal_cons (pel_var (i := 17)) (pal_cons (pel_var (i := 18)) pal_nil))))))))) (pssl_one (psl_ret pel_bl)) pssl_nil)
  (pssl_one (psl_if (ptl_cmp opl_notB (pel_call Fn_shows_years (hr.mono (by decide)) rfl T.mg_shows_years T.F_shows_years.kp T.b_shows_years dfl_nil (pal_cons (pel_make (n := 4) T.mk_Circle Fn_Circle___init__ le_Circle (hr.mono (by decide)) rfl T.mg_Circle bC dC (pal_cons pel_tup0 pal_nil)) (pal_cons (pel_var (i := 9)) (pal_cons (pel_var (i := 17)) (pal_cons (pel_var (i := 18)) pal_nil))))) pel_bl) (pssl_one (psl_ret pel_bl)) pssl_nil)))))))))))))))))))))))
  (pssl_cons (psl_set (i := 20) sc_law.nd (pel_make (n := 4) T.mk_Circle Fn_Circle___init__ le_Circle (hr.mono (by decide)) rfl T.mg_Circle bC dC (pal_cons pel_tup0 pal_nil)))
  (pssl_one (psl_ret (pel_and (pel_cmp opl_isB (pel_call Fn_shows_years (hr.mono (by decide)) rfl T.mg_shows_years T.F_shows_years.kp T.b_shows_years dfl_nil (pal_cons (pel_var (i := 20)) (pal_cons (pel_tup pal_nil) (pal_cons (pel_tup pal_nil) (pal_cons (pel_tup pal_nil) pal_nil))))) pel_bl) (pel_one (pel_cmp opl_isB (pel_call Fn_shows_years (hr.mono (by decide)) rfl T.mg_shows_years T.F_shows_years.kp T.b_shows_years dfl_nil (pal_cons (pel_var (i := 20)) (pal_cons (pel_tup (pal_cons (pel_make (n := 1) T.mk_Drawing Fn_Drawing___init__ le_Drawing (hr.mono (by decide)) rfl T.mg_Drawing T.b_Drawing___init__ dfl_nil (pal_cons pel_tup0 pal_nil)) pal_nil)) (pal_cons (pel_tup pal_nil) (pal_cons (pel_tup pal_nil) pal_nil))))) pel_bl))))))), ?_⟩
  intro zs hzs
  -- some of the names, as drawn
  have subs : ∀ (S : Sto) (k : Nat) (ns os : List Str) (dn : Int) (x : Str) (l : Sto), 0 < dn → dn < 1000000 → ∀ (items : List Str) (o : O), Pot o → ∃ (sub : List Str) (o' : O), Pot o' ∧ compG (fun _ => True) (gtName 10) (MP.tAnd (tTru (lBin gNe (lVar 10) (lVar 7))) (tTru (lBin gEq (lCall 2 gt [] (aCons (lVar 2) (aCons (lVar 5) aNil))) (lC (.int 0))))) (lVar 10) [some (.lst (zs.map D.int)), some (.int (k : Int)), some (.ref S.length), some (.lst (ns.map D.str)), some (.lst (os.map D.str)), some (.int dn), some (.ref (S.length + 1)), some (.str x), none, none, none, none, none, none, none, none, none, none, none, none, none] (items.map D.str) (S ++ o :: l) = .ok (sub.map D.str) (S ++ o' :: l) ∧ (∀ y ∈ sub, y ∈ items ∧ y ≠ x) ∧ sub.length ≤ items.length := by
    intro S k ns os dn x l d0 d1 items
    induction items with
    | nil => exact fun o ho => ⟨[], o, ho, comp_end trivial, (fun y hy => nomatch hy), Nat.le_refl _⟩
    | cons y items ih =>
      intro o ho
      by_cases hy : y = x
      · obtain ⟨sub, o', ho', e, h1, h2⟩ := ih o ho
        exact ⟨sub, o', ho', comp_skip trivial rfl (and_ff (tru_b (bin_ok rfl rfl ne_ss) (by rw [decide_eq_true hy]; rfl))) e, fun z hz => ⟨List.mem_cons_of_mem _ (h1 z hz).1, (h1 z hz).2⟩, by simp; omega⟩
      · obtain ⟨v, X, e1, v0, v1, pX⟩ := St (S ++ o :: l) S.length dn (pot_at ho) d0 d1
        obtain ⟨o1, ho1, rfl⟩ := pot_step pX
        obtain ⟨sub, o', ho', e, h1, h2⟩ := ih o1 ho1
        have t1 : tTru (lBin gNe (lVar 10) (lVar 7)) ([some (.lst (zs.map D.int)), some (.int (k : Int)), some (.ref S.length), some (.lst (ns.map D.str)), some (.lst (os.map D.str)), some (.int dn), some (.ref (S.length + 1)), some (.str x), none, none, none, none, none, none, none, none, none, none, none, none, none].set 10 (some (.str y))) (S ++ o :: l) = .ok true (S ++ o :: l) := tru_b (bin_ok rfl rfl ne_ss) (by rw [decide_eq_false hy]; rfl)
        have t2 : tTru (lBin gEq (lCall 2 gt [] (aCons (lVar 2) (aCons (lVar 5) aNil))) (lC (.int 0))) ([some (.lst (zs.map D.int)), some (.int (k : Int)), some (.ref S.length), some (.lst (ns.map D.str)), some (.lst (os.map D.str)), some (.int dn), some (.ref (S.length + 1)), some (.str x), none, none, none, none, none, none, none, none, none, none, none, none, none].set 10 (some (.str y))) (S ++ o :: l) = .ok (decide (v = 0)) (S ++ o1 :: l) := tru_b (bin_ok (call_ok (acons_ok rfl (acons_ok rfl rfl)) rfl e1) rfl eq_ii) rfl
        by_cases hv : v = 0
        · rw [decide_eq_true hv] at t2
          refine ⟨y :: sub, o', ho', comp_take trivial rfl (and_tt t1 t2) rfl e, fun z hz => ?_, by simp; omega⟩
          rcases List.mem_cons.mp hz with rfl | hz
          · exact ⟨by simp, hy⟩
          · exact ⟨List.mem_cons_of_mem _ (h1 z hz).1, (h1 z hz).2⟩
        · rw [decide_eq_false hv] at t2
          exact ⟨sub, o', ho', comp_skip trivial rfl (and_tt t1 t2) e, fun z hz => ⟨List.mem_cons_of_mem _ (h1 z hz).1, (h1 z hz).2⟩, by simp; omega⟩
  -- whom each may take
  have mays : ∀ (S : Sto) (k : Nat) (ns os : List Str) (dn : Int) (a : Str) (r : List Str), os = a :: r → os.Perm ns → os.Nodup → ns.length ≤ 30 → 0 < dn → dn < 1000000 → ∀ (items done : List Str) (o : O) (my : Str → List Str), Pot o → done ++ items = r → May ns os my → (∀ x ∈ items, (my x).length ≤ 60) →
      ∃ (o' : O) (my' : Str → List Str), Pot o' ∧ May ns os my' ∧ forG [some (.lst (zs.map D.int)), some (.int (k : Int)), some (.ref S.length), some (.lst (ns.map D.str)), some (.lst (os.map D.str)), some (.int dn), some (.ref (S.length + 1)), none, none, none, none, none, none, none, none, none, none, none, none, none, none] (fun _ => True) (gtName 7) (lSeq (lSet 9 (lComp (lIter (lVar 3)) [10] (gtName 10) (MP.tAnd (tTru (lBin gNe (lVar 10) (lVar 7))) (tTru (lBin gEq (lCall 2 gt [] (aCons (lVar 2) (aCons (lVar 5) aNil))) (lC (.int 0))))) (lVar 10))) (lStS stDct (lVar 6) (lVar 7) (lCallB gSortSet (aCons (lBin gAdd2 (lBin gDix (lVar 6) (lVar 7)) (lVar 9)) aNil)))) (items.map D.str) [some (.lst (zs.map D.int)), some (.int (k : Int)), some (.ref S.length), some (.lst (ns.map D.str)), some (.lst (os.map D.str)), some (.int dn), some (.ref (S.length + 1)), none, none, none, none, none, none, none, none, none, none, none, none, none, none] (S ++ [o, .dct false (mayK os my)]) = .ok (.nx [some (.lst (zs.map D.int)), some (.int (k : Int)), some (.ref S.length), some (.lst (ns.map D.str)), some (.lst (os.map D.str)), some (.int dn), some (.ref (S.length + 1)), none, none, none, none, none, none, none, none, none, none, none, none, none, none]) (S ++ [o', .dct false (mayK os my')]) := by
    intro S k ns os dn a r hos hpm hnd hnl d0 d1 items
    induction items with
    | nil => exact fun done o my ho _ hm _ => ⟨o, my, ho, hm, for_end trivial⟩
    | cons x items ih =>
      intro done o my ho hdr hm hml
      have hxr : x ∈ r := by rw [← hdr]; simp
      have hxo : x ∈ os := by rw [hos]; exact List.mem_cons_of_mem _ hxr
      have hxn : x ∈ ns := hpm.mem_iff.mp hxo
      have hxa : x ≠ a := fun e => by
        rw [hos] at hnd
        exact (List.nodup_cons.mp hnd).1 (by rw [← e]; exact hxr)
      have hxi : x ∉ items := fun z => by
        rw [hos] at hnd
        have h2 := (List.nodup_cons.mp hnd).2
        rw [← hdr] at h2
        exact (List.nodup_cons.mp (List.nodup_append.mp h2).2.1).1 z
      obtain ⟨sub, o1, ho1, e1, h1, h2⟩ := subs S k ns os dn x [.dct false (mayK os my)] d0 d1 ns o ho
      have hm1 := may_up hm hxn h1 (by omega) (fun a' b' r' e => by rw [hos] at e; injection e with e _; rw [← e]; exact hxa) (hml x (by simp))
      obtain ⟨o', my', ho', hm', e2⟩ := ih (done ++ [x]) o1 (upM my x (srtS (my x ++ sub))) ho1 (by rw [List.append_assoc]; exact hdr) hm1 (fun y hy => by
        have : upM my x (srtS (my x ++ sub)) y = my y := if_neg fun e => hxi (by rw [← e]; exact hy)
        rw [this]
        exact hml y (List.mem_cons_of_mem _ hy))
      have g1 : gDix (S ++ [o1, .dct false (mayK os my)]) (.ref (S.length + 1)) (.str x) = some (.lst ((my x).map D.str)) := dix_may at1 hxo
      have g2 : gAdd2 (S ++ [o1, .dct false (mayK os my)]) (.lst ((my x).map D.str)) (.lst (sub.map D.str)) = some (.lst ((my x ++ sub).map D.str)) := catL rfl rfl (by rw [List.map_append]) (by
        have := hml x (by simp)
        rw [List.length_map, List.length_append]
        omega)
      have g3 : gSortSet (S ++ [o1, .dct false (mayK os my)]) [.lst ((my x ++ sub).map D.str)] = some (.lst ((srtS (my x ++ sub)).map D.str)) := by
        unfold gSortSet
        dsimp only [vw]
        rw [strsD_map]
        dsimp only
        rw [if_pos (by
          have := hml x (by simp)
          rw [List.length_append]
          omega)]
      have g4 : stDct (S ++ [o1, .dct false (mayK os my)]) (.ref (S.length + 1)) (.str x) (.lst ((srtS (my x ++ sub)).map D.str)) = some (S ++ [o1, .dct false (mayK os (upM my x (srtS (my x ++ sub))))]) := by
        unfold stDct
        dsimp only
        rw [at1]
        dsimp only
        rw [if_pos (by unfold mayK; rw [List.length_map, hpm.length_eq]; exact Nat.lt_of_le_of_lt hnl (by decide))]
        show some ((S ++ [o1, .dct false (mayK os my)]).set (S.length + 1) (.dct false (putDD false (mayK os my) [.inr x] (.lst ((srtS (my x ++ sub)).map D.str))))) = _
        rw [up_K hxo, set1]
      have body : (lSeq (lSet 9 (lComp (lIter (lVar 3)) [10] (gtName 10) (MP.tAnd (tTru (lBin gNe (lVar 10) (lVar 7))) (tTru (lBin gEq (lCall 2 gt [] (aCons (lVar 2) (aCons (lVar 5) aNil))) (lC (.int 0))))) (lVar 10))) (lStS stDct (lVar 6) (lVar 7) (lCallB gSortSet (aCons (lBin gAdd2 (lBin gDix (lVar 6) (lVar 7)) (lVar 9)) aNil)))) [some (.lst (zs.map D.int)), some (.int (k : Int)), some (.ref S.length), some (.lst (ns.map D.str)), some (.lst (os.map D.str)), some (.int dn), some (.ref (S.length + 1)), some (.str x), none, none, none, none, none, none, none, none, none, none, none, none, none] (S ++ [o, .dct false (mayK os my)]) = .ok (.nx [some (.lst (zs.map D.int)), some (.int (k : Int)), some (.ref S.length), some (.lst (ns.map D.str)), some (.lst (os.map D.str)), some (.int dn), some (.ref (S.length + 1)), some (.str x), none, some (.lst (sub.map D.str)), none, none, none, none, none, none, none, none, none, none, none]) (S ++ [o1, .dct false (mayK os (upM my x (srtS (my x ++ sub))))]) :=
        seq_nx (set_ok (comp_okL (iter_ok rfl rfl) (by rw [List.length_map]; omega) e1)) (stS_ok (callb_ok (acons_ok (bin_ok (bin_ok rfl rfl g1) rfl g2) rfl) g3) rfl rfl g4)
      exact ⟨o', my', ho', hm', for_go trivial rfl body e2⟩
  -- the bars
  have bars : ∀ (S : Sto) (k : Nat) (ns os : List Str) (dn : Int) (o : O) (my : Str → List Str), os.Perm ns → ns.length ≤ 30 → ∀ (items done : List Str), done ++ items = ns → forG [some (.lst (zs.map D.int)), some (.int (k : Int)), some (.ref S.length), some (.lst (ns.map D.str)), some (.lst (os.map D.str)), some (.int dn), some (.ref (S.length + 1)), none, none, none, none, some (.ref (S.length + 2)), none, none, none, none, none, none, none, none, none] (fun _ => True) (gtName 7) (lExpr (lBM "list" stExt (lVar 11) (aCons (lComp (lIter (lVar 3)) [8] (gtName 8) (tTru (lBin gNotInL (lVar 8) (lBin gDix (lVar 6) (lVar 7)))) (lTup (aCons (lVar 7) (aCons (lVar 8) aNil)))) aNil))) (items.map D.str) [some (.lst (zs.map D.int)), some (.int (k : Int)), some (.ref S.length), some (.lst (ns.map D.str)), some (.lst (os.map D.str)), some (.int dn), some (.ref (S.length + 1)), none, none, none, none, some (.ref (S.length + 2)), none, none, none, none, none, none, none, none, none] (S ++ [o, .dct false (mayK os my), .lst (psD (brs done ns my))]) = .ok (.nx [some (.lst (zs.map D.int)), some (.int (k : Int)), some (.ref S.length), some (.lst (ns.map D.str)), some (.lst (os.map D.str)), some (.int dn), some (.ref (S.length + 1)), none, none, none, none, some (.ref (S.length + 2)), none, none, none, none, none, none, none, none, none]) (S ++ [o, .dct false (mayK os my), .lst (psD (brs ns ns my))]) := by
    intro S k ns os dn o my hpm hnl items
    induction items with
    | nil => intro done hd; rw [List.append_nil] at hd; rw [hd]; exact for_end trivial
    | cons x items ih =>
      intro done hd
      have hxn : x ∈ ns := by rw [← hd]; simp
      have hxo : x ∈ os := hpm.mem_iff.mpr hxn
      have hdl : done.length ≤ ns.length := by rw [← hd, List.length_append]; omega
      have h1 : lComp (lIter (lVar 3)) [8] (gtName 8) (tTru (lBin gNotInL (lVar 8) (lBin gDix (lVar 6) (lVar 7)))) (lTup (aCons (lVar 7) (aCons (lVar 8) aNil))) [some (.lst (zs.map D.int)), some (.int (k : Int)), some (.ref S.length), some (.lst (ns.map D.str)), some (.lst (os.map D.str)), some (.int dn), some (.ref (S.length + 1)), some (.str x), none, none, none, some (.ref (S.length + 2)), none, none, none, none, none, none, none, none, none] (S ++ [o, .dct false (mayK os my), .lst (psD (brs done ns my))]) = .ok (.lst (psD ((ns.filter fun b => !decide (b ∈ my x)).map fun b => (x, b)))) (S ++ [o, .dct false (mayK os my), .lst (psD (brs done ns my))]) := by
        unfold psD
        rw [List.map_map]
        exact comp_okL (iter_ok rfl rfl) (by rw [List.length_map]; omega) (comp_filter (enc := D.str) (f := fun b => pD (x, b)) (p := fun b => !decide (b ∈ my x)) trivial ns fun b hb => ⟨_, rfl, tru_b (bin_ok rfl (bin_ok rfl rfl (dix_may at1 hxo)) notInL) rfl, fun _ => tup_ok (acons_ok rfl (acons_ok rfl rfl)) (by simp)⟩)
      have hb1 := brs_len (all := ns) (my := my) done
      have hb2 : done.length * ns.length ≤ 30 * 30 := Nat.mul_le_mul (by omega) hnl
      have hb3 := List.length_filter_le (fun b => !decide (b ∈ my x)) ns
      have e2 : brs done ns my ++ ((ns.filter fun b => !decide (b ∈ my x)).map fun b => ((x, b) : Pr)) = brs (done ++ [x]) ns my := by
        unfold brs
        rw [List.flatMap_append]
        simp
      have h2 : stExt (S ++ [o, .dct false (mayK os my), .lst (psD (brs done ns my))]) (.ref (S.length + 2)) [.lst (psD ((ns.filter fun b => !decide (b ∈ my x)).map fun b => (x, b)))] = some (.non, S ++ [o, .dct false (mayK os my), .lst (psD (brs (done ++ [x]) ns my))]) := by
        unfold stExt
        dsimp only
        rw [at2]
        dsimp only
        rw [if_pos (by rw [psD_len, psD_len, List.length_map]; omega), set2]
        have : psD (brs done ns my) ++ psD ((ns.filter fun b => !decide (b ∈ my x)).map fun b => ((x, b) : Pr)) = psD (brs (done ++ [x]) ns my) := by
          rw [← e2]
          unfold psD
          rw [List.map_append]
        rw [this]
      exact for_go trivial rfl (expr_ok (bm_ok (d := .ref (S.length + 2)) rfl (ty_lst at2) (acons_ok h1 rfl) h2)) (ih (done ++ [x]) (by rw [List.append_assoc]; exact hd))
  -- one pass
  have hlen0 : gLen ([] : Sto) [.lst (zs.map D.int)] = some (.int (zs.length : Int)) := by
    show some (D.int ((zs.map D.int).length : Int)) = _
    rw [List.length_map]
  have hcnt : ∃ v : Int, 0 ≤ v ∧ v ≤ 2 ∧ lCallB gMax2 (aCons (lC (.int 1)) (aCons (lCallB gMin2 (aCons (lC (.int 2)) (aCons (lCallB gLen (aCons (lVar 0) aNil)) aNil))) aNil)) [some (.lst (zs.map D.int)), none, none, none, none, none, none, none, none, none, none, none, none, none, none, none, none, none, none, none, none] [] = .ok (.int v) [] := by
    refine ⟨_, ?_, ?_, callb_ok (acons_ok rfl (acons_ok (callb_ok (acons_ok rfl (acons_ok (callb_ok (acons_ok rfl rfl) hlen0) rfl)) rfl) rfl)) rfl⟩
    · split <;> split <;> omega
    · split <;> split <;> omega
  obtain ⟨cv, cv0, cv2, hcv⟩ := hcnt
  refine shell2 (it := ⟨(List.range cv.toNat).map fun (i : Nat) => D.int (i : Int), fun _ => True⟩) (range_ok (acons_ok hcv rfl) cv0 (by omega)) (fun _ => trivial) ?_ ?_
  · intro d hd S
    obtain ⟨k, hk, rfl⟩ := List.mem_map.mp hd
    rw [List.mem_range] at hk
    obtain ⟨o0, ho0, ep⟩ := Sp S zs k hzs (by omega)
    have h2 : lSet 2 (lCall 2 gp [] (aCons (lVar 0) (aCons (lVar 1) aNil))) [some (.lst (zs.map D.int)), some (.int (k : Int)), none, none, none, none, none, none, none, none, none, none, none, none, none, none, none, none, none, none, none] S = .ok (.nx [some (.lst (zs.map D.int)), some (.int (k : Int)), some (.ref S.length), none, none, none, none, none, none, none, none, none, none, none, none, none, none, none, none, none, none]) (S ++ [o0]) := set_ok (call_ok (acons_ok rfl (acons_ok rfl rfl)) rfl ep)
    obtain ⟨v, X, ev, v0, v1, pX⟩ := St (S ++ [o0]) S.length 8 (pot_at ho0) (by decide) (by decide)
    obtain ⟨o1, ho1, rfl⟩ := pot_step (l := []) pX
    obtain ⟨ns, X, en, pX, nl, nnm, npw⟩ := Sn (S ++ [o1]) S.length (17 + v) (pot_at ho1) (by omega) (by omega)
    obtain ⟨o2, ho2, rfl⟩ := pot_step (l := []) pX
    have nl1 : 17 ≤ ns.length := by omega
    have nl2 : ns.length ≤ 24 := by omega
    have h3 : lSet 3 (lCall 2 gn [] (aCons (lVar 2) (aCons (lBin gAdd2 (lC (.int 17)) (lCall 2 gt [] (aCons (lVar 2) (aCons (lC (.int 8)) aNil)))) aNil))) [some (.lst (zs.map D.int)), some (.int (k : Int)), some (.ref S.length), none, none, none, none, none, none, none, none, none, none, none, none, none, none, none, none, none, none] (S ++ [o0]) = .ok (.nx [some (.lst (zs.map D.int)), some (.int (k : Int)), some (.ref S.length), some (.lst (ns.map D.str)), none, none, none, none, none, none, none, none, none, none, none, none, none, none, none, none, none]) (S ++ [o2]) :=
      set_ok (call_ok (acons_ok rfl (acons_ok (bin_ok rfl (call_ok (acons_ok rfl (acons_ok rfl rfl)) rfl ev) add2_ii) rfl)) rfl en)
    obtain ⟨os, X, eu, pX, hpm⟩ := Su (S ++ [o2]) S.length ns (pot_at ho2) (by omega) nnm
    obtain ⟨o3, ho3, rfl⟩ := pot_step (l := []) pX
    obtain ⟨dv, X, ed, dv0, dv1, pX⟩ := St (S ++ [o3]) S.length 2 (pot_at ho3) (by decide) (by decide)
    obtain ⟨o4, ho4, rfl⟩ := pot_step (l := []) pX
    obtain ⟨dn, hdn, dn0, dn1⟩ : ∃ dn : Int, gIx (S ++ [o4]) (.lst [.int 2, .int 8]) (.int dv) = some (.int dn) ∧ 0 < dn ∧ dn < 1000000 := by
      have h : dv = 0 ∨ dv = 1 := by omega
      rcases h with rfl | rfl
      · exact ⟨2, rfl, by decide, by decide⟩
      · exact ⟨8, rfl, by decide, by decide⟩
    have h5 : lAsg (gtTup 2 (gtCons (gtName 4) (gtCons (gtName 5) gtNil))) (lTup (aCons (lCall 2 gu [] (aCons (lVar 2) (aCons (lVar 3) aNil))) (aCons (lBin gIx (lLst (aCons (lC (.int 2)) (aCons (lC (.int 8)) aNil))) (lCall 2 gt [] (aCons (lVar 2) (aCons (lC (.int 2)) aNil)))) aNil))) [some (.lst (zs.map D.int)), some (.int (k : Int)), some (.ref S.length), some (.lst (ns.map D.str)), none, none, none, none, none, none, none, none, none, none, none, none, none, none, none, none, none] (S ++ [o2]) = .ok (.nx [some (.lst (zs.map D.int)), some (.int (k : Int)), some (.ref S.length), some (.lst (ns.map D.str)), some (.lst (os.map D.str)), some (.int dn), none, none, none, none, none, none, none, none, none, none, none, none, none, none, none]) (S ++ [o4]) :=
      asg_ok (tup_ok (acons_ok (call_ok (acons_ok rfl (acons_ok rfl rfl)) rfl eu) (acons_ok (bin_ok (lst_ok (acons_ok rfl (acons_ok rfl rfl)) (by simp)) (call_ok (acons_ok rfl (acons_ok rfl rfl)) rfl ed) hdn) rfl)) (by simp)) rfl
    have hnd : os.Nodup := hpm.nodup_iff.mpr (pw_nd npw)
    have ol : os.length = ns.length := hpm.length_eq
    obtain ⟨a, b, r, hos⟩ : ∃ a b r, os = a :: b :: r := by
      match os, ol with
      | [], h => simp at h; omega
      | [_], h => simp at h; omega
      | a :: b :: r, _ => exact ⟨a, b, r, rfl⟩
    have han : a ∈ ns := hpm.mem_iff.mp (by rw [hos]; simp)
    have hz : ∀ ρ : Ev, ρ[4]? = some (some (.lst (os.map D.str))) → ∀ X : Sto, lZip (aCons (lVar 4) (aCons (lBin gAdd2 (lSlice gSlice (lVar 4) (oSome (lC (.int 1))) oNone) (lSlice gSlice (lVar 4) oNone (oSome (lC (.int 1))))) aNil)) ρ X = .ok ⟨psD (rng os), fun _ => True⟩ X := fun ρ h X => zip_ok (acons_ok (show lVar 4 ρ X = .ok (.lst (os.map D.str)) X by unfold lVar; rw [h]) (acons_ok (rot_ok h (by omega)) rfl)) zip_rot
    have h6 : lSet 6 (lDictN (aCons (lComp (lZip (aCons (lVar 4) (aCons (lBin gAdd2 (lSlice gSlice (lVar 4) (oSome (lC (.int 1))) oNone) (lSlice gSlice (lVar 4) oNone (oSome (lC (.int 1))))) aNil))) [7, 8] (gtTup 2 (gtCons (gtName 7) (gtCons (gtName 8) gtNil))) tYesL (lTup (aCons (lVar 7) (aCons (lLst (aCons (lVar 8) aNil)) aNil)))) aNil)) [some (.lst (zs.map D.int)), some (.int (k : Int)), some (.ref S.length), some (.lst (ns.map D.str)), some (.lst (os.map D.str)), some (.int dn), none, none, none, none, none, none, none, none, none, none, none, none, none, none, none] (S ++ [o4]) = .ok (.nx [some (.lst (zs.map D.int)), some (.int (k : Int)), some (.ref S.length), some (.lst (ns.map D.str)), some (.lst (os.map D.str)), some (.int dn), some (.ref (S.length + 1)), none, none, none, none, none, none, none, none, none, none, none, none, none, none]) (S ++ [o4, .dct false (mayK os (my0 os))]) := by
      have c : lComp (lZip (aCons (lVar 4) (aCons (lBin gAdd2 (lSlice gSlice (lVar 4) (oSome (lC (.int 1))) oNone) (lSlice gSlice (lVar 4) oNone (oSome (lC (.int 1))))) aNil))) [7, 8] (gtTup 2 (gtCons (gtName 7) (gtCons (gtName 8) gtNil))) tYesL (lTup (aCons (lVar 7) (aCons (lLst (aCons (lVar 8) aNil)) aNil))) [some (.lst (zs.map D.int)), some (.int (k : Int)), some (.ref S.length), some (.lst (ns.map D.str)), some (.lst (os.map D.str)), some (.int dn), none, none, none, none, none, none, none, none, none, none, none, none, none, none, none] (S ++ [o4]) = .ok (.lst ((rng os).map fun p => D.tup [.str p.1, .lst [.str p.2]])) (S ++ [o4]) :=
        comp_okL (hz _ rfl _) (by rw [psD_len, rng_len]; omega) (comp_map (enc := pD) (f := fun p => D.tup [.str p.1, .lst [.str p.2]]) trivial (rng os) fun p hp => ⟨_, rfl, tup_ok (acons_ok rfl (acons_ok (lst_ok (acons_ok rfl rfl) (by simp)) rfl)) (by simp)⟩)
      have h := dictN_ok (acons_ok (t := aNil) c rfl) (kvs_rng (rng os)) ⟨by
        rw [keys_rng, rng_giv]
        unfold List.Nodup
        rw [List.pairwise_map]
        exact hnd.imp fun {a b} q z => q (by injection z), by rw [List.length_map, rng_len]; omega⟩
      rw [← my0_K hnd] at h
      have e : (S ++ [o4]) ++ [O.dct false (mayK os (my0 os))] = S ++ [o4, .dct false (mayK os (my0 os))] := by simp
      rw [e] at h
      have e2 : (S ++ [o4]).length = S.length + 1 := by simp
      rw [e2] at h
      exact set_ok h
    have hm0 : May ns os (my0 os) := may_0 hpm hnd (by omega)
    obtain ⟨o5, my, ho5, hmy, e7⟩ := mays S k ns os dn a (b :: r) hos hpm hnd (by omega) dn0 dn1 (b :: r) [] o4 (my0 os) ho4 rfl hm0 fun x _ => Nat.le_trans (my0_len1 os x) (by decide)
    have h7 : lFor (lIter (lSlice gSlice (lVar 4) (oSome (lC (.int 1))) oNone)) (gtName 7) (lSeq (lSet 9 (lComp (lIter (lVar 3)) [10] (gtName 10) (MP.tAnd (tTru (lBin gNe (lVar 10) (lVar 7))) (tTru (lBin gEq (lCall 2 gt [] (aCons (lVar 2) (aCons (lVar 5) aNil))) (lC (.int 0))))) (lVar 10))) (lStS stDct (lVar 6) (lVar 7) (lCallB gSortSet (aCons (lBin gAdd2 (lBin gDix (lVar 6) (lVar 7)) (lVar 9)) aNil)))) [some (.lst (zs.map D.int)), some (.int (k : Int)), some (.ref S.length), some (.lst (ns.map D.str)), some (.lst (os.map D.str)), some (.int dn), some (.ref (S.length + 1)), none, none, none, none, none, none, none, none, none, none, none, none, none, none] (S ++ [o4, .dct false (mayK os (my0 os))]) = .ok (.nx [some (.lst (zs.map D.int)), some (.int (k : Int)), some (.ref S.length), some (.lst (ns.map D.str)), some (.lst (os.map D.str)), some (.int dn), some (.ref (S.length + 1)), none, none, none, none, none, none, none, none, none, none, none, none, none, none]) (S ++ [o5, .dct false (mayK os my)]) := by
      refine for_ok (iter_ok (slice_ok rfl (osome_ok rfl) rfl (show gSlice _ (.lst (os.map D.str)) (some 1) none = some (.lst ((b :: r).map D.str)) from ?_)) rfl) e7
      show some (D.lst (MP.cutD (os.map D.str) (some 1) none)) = _
      rw [cutS_drop _ _ (by decide), ← List.map_drop, hos]
      rfl
    have h11 : lSet 11 (lLstN aNil) [some (.lst (zs.map D.int)), some (.int (k : Int)), some (.ref S.length), some (.lst (ns.map D.str)), some (.lst (os.map D.str)), some (.int dn), some (.ref (S.length + 1)), none, none, none, none, none, none, none, none, none, none, none, none, none, none] (S ++ [o5, .dct false (mayK os my)]) = .ok (.nx [some (.lst (zs.map D.int)), some (.int (k : Int)), some (.ref S.length), some (.lst (ns.map D.str)), some (.lst (os.map D.str)), some (.int dn), some (.ref (S.length + 1)), none, none, none, none, some (.ref (S.length + 2)), none, none, none, none, none, none, none, none, none]) (S ++ [o5, .dct false (mayK os my), .lst (psD (brs [] ns my))]) := by
      have h := lstN_ok (t := aNil) (ρ := [some (.lst (zs.map D.int)), some (.int (k : Int)), some (.ref S.length), some (.lst (ns.map D.str)), some (.lst (os.map D.str)), some (.int dn), some (.ref (S.length + 1)), none, none, none, none, none, none, none, none, none, none, none, none, none, none]) (S := S ++ [o5, .dct false (mayK os my)]) (ds := []) rfl (Nat.zero_le _)
      have e : (S ++ [o5, O.dct false (mayK os my)]) ++ [O.lst []] = S ++ [o5, .dct false (mayK os my), .lst (psD (brs [] ns my))] := by simp [psD, brs]
      have e2 : (S ++ [o5, O.dct false (mayK os my)]).length = S.length + 2 := by simp
      rw [e, e2] at h
      exact set_ok h
    have h7b := for_ok (li := lIter (lVar 3)) (ρ := [some (.lst (zs.map D.int)), some (.int (k : Int)), some (.ref S.length), some (.lst (ns.map D.str)), some (.lst (os.map D.str)), some (.int dn), some (.ref (S.length + 1)), none, none, none, none, some (.ref (S.length + 2)), none, none, none, none, none, none, none, none, none]) (S := S ++ [o5, .dct false (mayK os my), .lst (psD (brs [] ns my))]) (it := ⟨ns.map D.str, fun _ => True⟩) (iter_ok rfl rfl) (bars S k ns os dn o5 my hpm (by omega) ns [] rfl)
    obtain ⟨X, hX⟩ : ∃ X, X = S ++ [o5, O.dct false (mayK os my), .lst (psD (brs ns ns my))] := ⟨_, rfl⟩
    have hX1 : X[S.length + 1]? = some (.dct false (mayK os my)) := by rw [hX]; exact at1
    have hX2 : X[S.length + 2]? = some (.lst (psD (brs ns ns my))) := by rw [hX]; exact at2
    have hgc : GoodC ns (brs ns ns my) := ⟨by omega, pw_nd npw, by
      have h := brs_len (all := ns) (my := my) ns
      have h' : ns.length * ns.length ≤ 24 * 24 := Nat.mul_le_mul nl2 nl2
      omega, brs_nd (pw_nd npw) (pw_nd npw), nnm⟩
    obtain ⟨hF, hFg⟩ := first_good hpm nnm npw (by omega)
    obtain ⟨hG, hGg⟩ := other_good nnm npw (by omega)
    have h12 : lSet 12 (lCall 4 (crF T.C_Circle) [.non, .int 1] (aCons (lCallB gFTuple (aCons (lComp (lIter (lVar 3)) [10] (gtName 10) tYesL (lTup (aCons (lVar 10) (aCons (lC (.str "")) aNil)))) aNil)) (aCons (lCallB gFTuple (aCons (lVar 11) aNil)) aNil))) [some (.lst (zs.map D.int)), some (.int (k : Int)), some (.ref S.length), some (.lst (ns.map D.str)), some (.lst (os.map D.str)), some (.int dn), some (.ref (S.length + 1)), none, none, none, none, some (.ref (S.length + 2)), none, none, none, none, none, none, none, none, none] X = .ok (.nx [some (.lst (zs.map D.int)), some (.int (k : Int)), some (.ref S.length), some (.lst (ns.map D.str)), some (.lst (os.map D.str)), some (.int dn), some (.ref (S.length + 1)), none, none, none, none, some (.ref (S.length + 2)), some (crD T.C_Circle ns (brs ns ns my)), none, none, none, none, none, none, none, none]) X := by
      have c : lComp (lIter (lVar 3)) [10] (gtName 10) tYesL (lTup (aCons (lVar 10) (aCons (lC (.str "")) aNil))) [some (.lst (zs.map D.int)), some (.int (k : Int)), some (.ref S.length), some (.lst (ns.map D.str)), some (.lst (os.map D.str)), some (.int dn), some (.ref (S.length + 1)), none, none, none, none, some (.ref (S.length + 2)), none, none, none, none, none, none, none, none, none] X = .ok (.lst (memD ns)) X := by
        unfold memD hsP psD
        rw [List.map_map]
        exact comp_okL (iter_ok rfl rfl) (by rw [List.length_map]; omega) (comp_map (enc := D.str) (f := fun x => pD (x, "")) trivial ns fun x hx => ⟨_, rfl, tup_ok (acons_ok rfl (acons_ok rfl rfl)) (by simp)⟩)
      have c2 : gFTuple X [.ref (S.length + 2)] = some (.ftup (psD (brs ns ns my))) := by
        unfold gFTuple
        dsimp only
        rw [vw_ref hX2]
      exact set_ok (call_ok (acons_ok (callb_ok (acons_ok c rfl) rfl) (acons_ok (callb_ok (acons_ok rfl rfl) c2) rfl)) rfl (crF_of hgc))
    have h13 : lSet 13 (lCall 1 (drF T.C_Drawing) [] (aCons (lCallB gFTuple (aCons (lCallB gSortZip (aCons (lVar 4) (aCons (lBin gAdd2 (lSlice gSlice (lVar 4) (oSome (lC (.int 1))) oNone) (lSlice gSlice (lVar 4) oNone (oSome (lC (.int 1))))) aNil))) aNil)) aNil)) [some (.lst (zs.map D.int)), some (.int (k : Int)), some (.ref S.length), some (.lst (ns.map D.str)), some (.lst (os.map D.str)), some (.int dn), some (.ref (S.length + 1)), none, none, none, none, some (.ref (S.length + 2)), some (crD T.C_Circle ns (brs ns ns my)), none, none, none, none, none, none, none, none] X = .ok (.nx [some (.lst (zs.map D.int)), some (.int (k : Int)), some (.ref S.length), some (.lst (ns.map D.str)), some (.lst (os.map D.str)), some (.int dn), some (.ref (S.length + 1)), none, none, none, none, some (.ref (S.length + 2)), some (crD T.C_Circle ns (brs ns ns my)), some (drD T.C_Drawing ((rng os).mergeSort leP)), none, none, none, none, none, none, none]) X := by
      have c : gSortZip X [.lst (os.map D.str), .lst ((rot os).map D.str)] = some (.lst (psD ((rng os).mergeSort leP))) := by
        unfold gSortZip
        dsimp only [vw]
        have e : zipD (os.map D.str) ((rot os).map D.str) = psD (rng os) := zip_lst os (rot os)
        rw [e, if_pos ⟨by rw [psD_len, rng_len]; omega, srt_ps _ (by rw [rng_len]; omega)⟩, sort_ps]
      exact set_ok (call_ok (acons_ok (callb_ok (acons_ok (callb_ok (acons_ok rfl (acons_ok (rot_ok rfl (by omega)) rfl)) c) rfl) rfl) rfl) rfl (drF_of hF))
    have h8 : lSet 8 (lCall 1 (drF T.C_Drawing) [] (aCons (lCallB gTupZip (aCons (lVar 3) (aCons (lBin gAdd2 (lSlice gSlice (lVar 3) (oSome (lC (.int 1))) oNone) (lSlice gSlice (lVar 3) oNone (oSome (lC (.int 1))))) aNil))) aNil)) [some (.lst (zs.map D.int)), some (.int (k : Int)), some (.ref S.length), some (.lst (ns.map D.str)), some (.lst (os.map D.str)), some (.int dn), some (.ref (S.length + 1)), none, none, none, none, some (.ref (S.length + 2)), some (crD T.C_Circle ns (brs ns ns my)), some (drD T.C_Drawing ((rng os).mergeSort leP)), none, none, none, none, none, none, none] X = .ok (.nx [some (.lst (zs.map D.int)), some (.int (k : Int)), some (.ref S.length), some (.lst (ns.map D.str)), some (.lst (os.map D.str)), some (.int dn), some (.ref (S.length + 1)), none, some (drD T.C_Drawing (rng ns)), none, none, some (.ref (S.length + 2)), some (crD T.C_Circle ns (brs ns ns my)), some (drD T.C_Drawing ((rng os).mergeSort leP)), none, none, none, none, none, none, none]) X := by
      have c : gTupZip X [.lst (ns.map D.str), .lst ((rot ns).map D.str)] = some (.ftup (psD (rng ns))) := by
        unfold gTupZip
        dsimp only [vw]
        have e : zipD (ns.map D.str) ((rot ns).map D.str) = psD (rng ns) := zip_lst ns (rot ns)
        rw [e, if_pos (by rw [psD_len, rng_len]; omega)]
      exact set_ok (call_ok (acons_ok (callb_ok (acons_ok rfl (acons_ok (rot_ok rfl (by omega)) rfl)) c) rfl) rfl (drF_of hG))
    obtain ⟨mv, X', em, mv0, mv1, pX⟩ := St X S.length ((os.length : Int) - 1) (by rw [hX]; exact pot_at ho5) (by omega) (by omega)
    rw [hX] at pX
    obtain ⟨o6, ho6, hX'⟩ := pot_step pX
    have hX1' : X'[S.length + 1]? = some (.dct false (mayK os my)) := by rw [hX']; exact at1
    obtain ⟨c, hc, hcn, hca⟩ : ∃ c, gIx X' (.lst (os.map D.str)) (.int (1 + mv)) = some (.str c) ∧ c ∈ ns ∧ c ≠ a := by
      have hi : (1 + mv).toNat < os.length := by omega
      refine ⟨os[(1 + mv).toNat], ?_, hpm.mem_iff.mp (List.getElem_mem hi), fun e => ?_⟩
      · show (ixN (os.map D.str).length (1 + mv)).bind _ = _
        unfold ixN
        rw [if_pos (by omega), if_pos (by rw [List.length_map]; omega)]
        show (os.map D.str)[(1 + mv).toNat]? = _
        rw [List.getElem?_map, List.getElem?_eq_getElem hi]
        rfl
      · have h1 : os[0]? = os[(1 + mv).toNat]? := by
          rw [List.getElem?_eq_getElem hi, e, hos]
          rfl
        have := (List.getElem?_inj (by omega) hnd).mp h1
        omega
    have h14 : lAsg (gtTup 2 (gtCons (gtName 7) (gtCons (gtName 14) gtNil))) (lTup (aCons (lBin gIx (lVar 4) (lC (.int 0))) (aCons (lBin gIx (lVar 4) (lBin gAdd2 (lC (.int 1)) (lCall 2 gt [] (aCons (lVar 2) (aCons (lBin gSub (lCallB gLen (aCons (lVar 4) aNil)) (lC (.int 1))) aNil))))) aNil))) [some (.lst (zs.map D.int)), some (.int (k : Int)), some (.ref S.length), some (.lst (ns.map D.str)), some (.lst (os.map D.str)), some (.int dn), some (.ref (S.length + 1)), none, some (drD T.C_Drawing (rng ns)), none, none, some (.ref (S.length + 2)), some (crD T.C_Circle ns (brs ns ns my)), some (drD T.C_Drawing ((rng os).mergeSort leP)), none, none, none, none, none, none, none] X = .ok (.nx [some (.lst (zs.map D.int)), some (.int (k : Int)), some (.ref S.length), some (.lst (ns.map D.str)), some (.lst (os.map D.str)), some (.int dn), some (.ref (S.length + 1)), some (.str a), some (drD T.C_Drawing (rng ns)), none, none, some (.ref (S.length + 2)), some (crD T.C_Circle ns (brs ns ns my)), some (drD T.C_Drawing ((rng os).mergeSort leP)), some (.str c), none, none, none, none, none, none]) X' := by
      have i0 : gIx X (.lst (os.map D.str)) (.int 0) = some (.str a) := by
        show (ixN (os.map D.str).length 0).bind _ = _
        unfold ixN
        rw [if_pos (by omega), if_pos (by rw [List.length_map]; omega)]
        show (os.map D.str)[(0 : Int).toNat]? = _
        rw [List.getElem?_map, hos]
        rfl
      have il : gLen X [.lst (os.map D.str)] = some (.int (os.length : Int)) := by
        show some (D.int ((os.map D.str).length : Int)) = _
        rw [List.length_map]
      exact asg_ok (tup_ok (acons_ok (bin_ok rfl rfl i0) (acons_ok (bin_ok rfl (bin_ok rfl (call_ok (acons_ok rfl (acons_ok (bin_ok (callb_ok (acons_ok rfl rfl) il) rfl rfl) rfl)) rfl em) add2_ii) hc) rfl)) (by simp)) rfl
    have nms_ns : Nms ns := ⟨nnm, npw, by omega⟩
    have nms_a : Nms [a] := nms_one (nnm a han)
    have nms_c : Nms [c] := nms_one (nnm c hcn)
    have hbp := List.mergeSort_perm [a, c] sle
    have nms_b : Nms ([a, c].mergeSort sle) := ⟨fun y hy => by
      have := hbp.mem_iff.mp hy
      simp only [List.mem_cons, List.not_mem_nil, or_false] at this
      rcases this with rfl | rfl
      · exact nnm _ han
      · exact nnm _ hcn, rise_sorted (by simp [Ne.symm hca]), by rw [hbp.length_eq]; simp⟩
    have bsub : ∀ x ∈ [a, c].mergeSort sle, x ∈ ns := fun x hx => by
      have := hbp.mem_iff.mp hx
      simp only [List.mem_cons, List.not_mem_nil, or_false] at this
      rcases this with rfl | rfl
      · exact han
      · exact hcn
    have asub : ∀ x ∈ [a], x ∈ ns := fun x hx => by rw [List.mem_singleton.mp hx]; exact han
    have csub : ∀ x ∈ [c], x ∈ ns := fun x hx => by rw [List.mem_singleton.mp hx]; exact hcn
    have nsub : ∀ x ∈ ([] : List Str), x ∈ ns := fun x hx => nomatch hx
    have hne : ns ≠ [] := fun e => by rw [e] at nl1; simp at nl1
    obtain ⟨F, hFe⟩ : ∃ F, F = (rng os).mergeSort leP := ⟨_, rfl⟩
    obtain ⟨G, hGe⟩ : ∃ G, G = rng ns := ⟨_, rfl⟩
    rw [← hFe] at hF hFg h13 h8 h14
    rw [← hGe] at hG hGg h8 h14
    have sF : Shp [F] := ⟨.inr (.inl ⟨F, rfl⟩), fun p hp => by rw [List.mem_singleton.mp hp]; exact hF⟩
    have sG : Shp [G] := ⟨.inr (.inl ⟨G, rfl⟩), fun p hp => by rw [List.mem_singleton.mp hp]; exact hG⟩
    have sFF : Shp [F, F] := ⟨.inr (.inr ⟨F, rfl⟩), fun p hp => by
      simp only [List.mem_cons, List.not_mem_nil, or_false, or_self] at hp
      rw [hp]; exact hF⟩
    have s0 : Shp [] := ⟨.inl rfl, fun p hp => nomatch hp⟩
    have gF : ∀ p ∈ [F], givs p = ns := fun p hp => by rw [List.mem_singleton.mp hp]; exact hFg
    have gG : ∀ p ∈ [G], givs p = ns := fun p hp => by rw [List.mem_singleton.mp hp]; exact hGg
    have gFF : ∀ p ∈ [F, F], givs p = ns := fun p hp => by
      simp only [List.mem_cons, List.not_mem_nil, or_false, or_self] at hp
      rw [hp]; exact hFg
    have g0 : ∀ p ∈ ([] : List (List Pr)), givs p = ns := fun p hp => nomatch hp
    have i1 : lIfS (tTru (lBin gNotB (lCall 4 gs [] (aCons (lVar 12) (aCons (lTup (aCons (lVar 13) aNil)) (aCons (lTup (aCons (lVar 7) aNil)) (aCons (lTup aNil) aNil))))) (lC (.bl true)))) (lRet (lC (.bl false))) lNext [some (.lst (zs.map D.int)), some (.int (k : Int)), some (.ref S.length), some (.lst (ns.map D.str)), some (.lst (os.map D.str)), some (.int dn), some (.ref (S.length + 1)), some (.str a), some (drD T.C_Drawing G), none, none, some (.ref (S.length + 2)), some (crD T.C_Circle ns (brs ns ns my)), some (drD T.C_Drawing F), some (.str c), none, none, none, none, none, none] X' = .ok (.nx [some (.lst (zs.map D.int)), some (.int (k : Int)), some (.ref S.length), some (.lst (ns.map D.str)), some (.lst (os.map D.str)), some (.int dn), some (.ref (S.length + 1)), some (.str a), some (drD T.C_Drawing G), none, none, some (.ref (S.length + 2)), some (crD T.C_Circle ns (brs ns ns my)), some (drD T.C_Drawing F), some (.str c), none, none, none, none, none, none]) X' := by
      have e := Ss X' ns (brs ns ns my) [F] [a] [] hgc sF nms_a nms_nil
      rw [shw_of hmy npw (fun p hp => ⟨sF.2 p hp, gF p hp⟩) asub nsub, hFe, due_first hmy hos, ← hFe] at e
      exact if_ff (tru_b (bin_ok (call_ok (acons_ok rfl (acons_ok (tup1 rfl) (acons_ok (tup1 rfl) (acons_ok tup0 rfl)))) rfl e) rfl rfl) rfl) rfl
    have h15 : lSet 15 (lCallB gTuple (aCons (lCallB gSorted (aCons (lLst (aCons (lVar 7) (aCons (lVar 14) aNil))) aNil)) aNil)) [some (.lst (zs.map D.int)), some (.int (k : Int)), some (.ref S.length), some (.lst (ns.map D.str)), some (.lst (os.map D.str)), some (.int dn), some (.ref (S.length + 1)), some (.str a), some (drD T.C_Drawing G), none, none, some (.ref (S.length + 2)), some (crD T.C_Circle ns (brs ns ns my)), some (drD T.C_Drawing F), some (.str c), none, none, none, none, none, none] X' = .ok (.nx [some (.lst (zs.map D.int)), some (.int (k : Int)), some (.ref S.length), some (.lst (ns.map D.str)), some (.lst (os.map D.str)), some (.int dn), some (.ref (S.length + 1)), some (.str a), some (drD T.C_Drawing G), none, none, some (.ref (S.length + 2)), some (crD T.C_Circle ns (brs ns ns my)), some (drD T.C_Drawing F), some (.str c), some (.tup ((([a, c] : List Str).mergeSort sle).map D.str)), none, none, none, none, none]) X' :=
      set_ok (callb_ok (acons_ok (callb_ok (acons_ok (lst_ok (acons_ok rfl (acons_ok rfl rfl)) (by simp)) rfl) (sorted_strs X' (.lst ([a, c].map D.str)) [a, c] rfl (by simp))) rfl) rfl)
    obtain ⟨B, hB⟩ : ∃ B, B = [a, c].mergeSort sle := ⟨_, rfl⟩
    rw [← hB] at nms_b bsub h15
    have h16a : lSet 16 (lLst (aCons (lTup (aCons (lTup (aCons (lVar 13) aNil)) (aCons (lTup (aCons (lVar 7) aNil)) (aCons (lTup aNil) aNil)))) (aCons (lTup (aCons (lTup aNil) (aCons (lTup (aCons (lVar 7) aNil)) (aCons (lTup aNil) aNil)))) (aCons (lTup (aCons (lTup (aCons (lVar 13) aNil)) (aCons (lTup aNil) (aCons (lTup aNil) aNil)))) (aCons (lTup (aCons (lTup (aCons (lVar 13) aNil)) (aCons (lTup (aCons (lVar 14) aNil)) (aCons (lTup aNil) aNil)))) aNil))))) [some (.lst (zs.map D.int)), some (.int (k : Int)), some (.ref S.length), some (.lst (ns.map D.str)), some (.lst (os.map D.str)), some (.int dn), some (.ref (S.length + 1)), some (.str a), some (drD T.C_Drawing G), none, none, some (.ref (S.length + 2)), some (crD T.C_Circle ns (brs ns ns my)), some (drD T.C_Drawing F), some (.str c), some (.tup (B.map D.str)), none, none, none, none, none] X' = .ok (.nx [some (.lst (zs.map D.int)), some (.int (k : Int)), some (.ref S.length), some (.lst (ns.map D.str)), some (.lst (os.map D.str)), some (.int dn), some (.ref (S.length + 1)), some (.str a), some (drD T.C_Drawing G), none, none, some (.ref (S.length + 2)), some (crD T.C_Circle ns (brs ns ns my)), some (drD T.C_Drawing F), some (.str c), some (.tup (B.map D.str)), some (.lst (([([F], [a], []), ([], [a], []), ([F], [], []), ([F], [c], [])] : List Ask).map (askD T.C_Drawing))), none, none, none, none]) X' :=
      set_ok (lst_ok (acons_ok (ask_ok (q := ([F], [a], [])) (tup1 rfl) (tup1 rfl) tup0) (acons_ok (ask_ok (q := ([], [a], [])) tup0 (tup1 rfl) tup0) (acons_ok (ask_ok (q := ([F], [], [])) (tup1 rfl) tup0 tup0) (acons_ok (ask_ok (q := ([F], [c], [])) (tup1 rfl) (tup1 rfl) tup0) rfl)))) (by simp))
    have h16b : lSet 16 (lBin gAdd2 (lVar 16) (lLst (aCons (lTup (aCons (lTup (aCons (lVar 8) aNil)) (aCons (lTup (aCons (lVar 7) aNil)) (aCons (lTup aNil) aNil)))) (aCons (lTup (aCons (lTup (aCons (lVar 13) aNil)) (aCons (lVar 15) (aCons (lTup (aCons (lVar 14) aNil)) aNil)))) (aCons (lTup (aCons (lTup (aCons (lVar 13) (aCons (lVar 13) aNil))) (aCons (lTup (aCons (lVar 7) aNil)) (aCons (lTup aNil) aNil)))) aNil))))) [some (.lst (zs.map D.int)), some (.int (k : Int)), some (.ref S.length), some (.lst (ns.map D.str)), some (.lst (os.map D.str)), some (.int dn), some (.ref (S.length + 1)), some (.str a), some (drD T.C_Drawing G), none, none, some (.ref (S.length + 2)), some (crD T.C_Circle ns (brs ns ns my)), some (drD T.C_Drawing F), some (.str c), some (.tup (B.map D.str)), some (.lst (([([F], [a], []), ([], [a], []), ([F], [], []), ([F], [c], [])] : List Ask).map (askD T.C_Drawing))), none, none, none, none] X' = .ok (.nx [some (.lst (zs.map D.int)), some (.int (k : Int)), some (.ref S.length), some (.lst (ns.map D.str)), some (.lst (os.map D.str)), some (.int dn), some (.ref (S.length + 1)), some (.str a), some (drD T.C_Drawing G), none, none, some (.ref (S.length + 2)), some (crD T.C_Circle ns (brs ns ns my)), some (drD T.C_Drawing F), some (.str c), some (.tup (B.map D.str)), some (.lst (([([F], [a], []), ([], [a], []), ([F], [], []), ([F], [c], []), ([G], [a], []), ([F], B, [c]), ([F, F], [a], [])] : List Ask).map (askD T.C_Drawing))), none, none, none, none]) X' :=
      set_ok (bin_ok rfl (lst_ok (acons_ok (ask_ok (q := ([G], [a], [])) (tup1 rfl) (tup1 rfl) tup0) (acons_ok (ask_ok (q := ([F], B, [c])) (tup1 rfl) rfl (tup1 rfl)) (acons_ok (ask_ok (q := ([F, F], [a], [])) (tup2 rfl) (tup1 rfl) tup0) rfl))) (by simp)) (catL rfl rfl rfl (by simp)))
    have h16c : lSet 16 (lBin gAdd2 (lVar 16) (lLst (aCons (lTup (aCons (lTup (aCons (lVar 13) aNil)) (aCons (lTup (aCons (lVar 7) aNil)) (aCons (lTup (aCons (lVar 14) aNil)) aNil)))) (aCons (lTup (aCons (lTup (aCons (lVar 13) aNil)) (aCons (lVar 15) (aCons (lTup aNil) aNil)))) (aCons (lTup (aCons (lTup (aCons (lVar 13) aNil)) (aCons (lCallB gTuple (aCons (lVar 3) aNil)) (aCons (lTup aNil) aNil)))) aNil))))) [some (.lst (zs.map D.int)), some (.int (k : Int)), some (.ref S.length), some (.lst (ns.map D.str)), some (.lst (os.map D.str)), some (.int dn), some (.ref (S.length + 1)), some (.str a), some (drD T.C_Drawing G), none, none, some (.ref (S.length + 2)), some (crD T.C_Circle ns (brs ns ns my)), some (drD T.C_Drawing F), some (.str c), some (.tup (B.map D.str)), some (.lst (([([F], [a], []), ([], [a], []), ([F], [], []), ([F], [c], []), ([G], [a], []), ([F], B, [c]), ([F, F], [a], [])] : List Ask).map (askD T.C_Drawing))), none, none, none, none] X' = .ok (.nx [some (.lst (zs.map D.int)), some (.int (k : Int)), some (.ref S.length), some (.lst (ns.map D.str)), some (.lst (os.map D.str)), some (.int dn), some (.ref (S.length + 1)), some (.str a), some (drD T.C_Drawing G), none, none, some (.ref (S.length + 2)), some (crD T.C_Circle ns (brs ns ns my)), some (drD T.C_Drawing F), some (.str c), some (.tup (B.map D.str)), some (.lst (([([F], [a], []), ([], [a], []), ([F], [], []), ([F], [c], []), ([G], [a], []), ([F], B, [c]), ([F, F], [a], []), ([F], [a], [c]), ([F], B, []), ([F], ns, [])] : List Ask).map (askD T.C_Drawing))), none, none, none, none]) X' :=
      set_ok (bin_ok rfl (lst_ok (acons_ok (ask_ok (q := ([F], [a], [c])) (tup1 rfl) (tup1 rfl) (tup1 rfl)) (acons_ok (ask_ok (q := ([F], B, [])) (tup1 rfl) rfl tup0) (acons_ok (ask_ok (q := ([F], ns, [])) (tup1 rfl) (callb_ok (acons_ok rfl rfl) rfl) tup0) rfl))) (by simp)) (catL rfl rfl rfl (by simp)))
    obtain ⟨asks, hasks⟩ : ∃ asks : List Ask, asks = [([F], [a], []), ([], [a], []), ([F], [], []), ([F], [c], []), ([G], [a], []), ([F], B, [c]), ([F, F], [a], []), ([F], [a], [c]), ([F], B, []), ([F], ns, [])] := ⟨_, rfl⟩
    rw [← hasks] at h16c
    have hgood : ∀ q ∈ asks, Shp q.1 ∧ (∀ p ∈ q.1, givs p = ns) ∧ Nms q.2.1 ∧ Nms q.2.2 ∧ (∀ x ∈ q.2.1, x ∈ ns) ∧ (∀ x ∈ q.2.2, x ∈ ns) ∧ (q.1 = [] → q.2.1 ≠ []) := fun q hq => by
      rw [hasks] at hq
      simp only [List.mem_cons, List.not_mem_nil, or_false] at hq
      rcases hq with rfl | rfl | rfl | rfl | rfl | rfl | rfl | rfl | rfl | rfl
      · exact ⟨sF, gF, nms_a, nms_nil, asub, nsub, fun h => by simp at h⟩
      · exact ⟨s0, g0, nms_a, nms_nil, asub, nsub, fun _ h => by simp at h⟩
      · exact ⟨sF, gF, nms_nil, nms_nil, nsub, nsub, fun h => by simp at h⟩
      · exact ⟨sF, gF, nms_c, nms_nil, csub, nsub, fun h => by simp at h⟩
      · exact ⟨sG, gG, nms_a, nms_nil, asub, nsub, fun h => by simp at h⟩
      · exact ⟨sF, gF, nms_b, nms_c, bsub, csub, fun h => by simp at h⟩
      · exact ⟨sFF, gFF, nms_a, nms_nil, asub, nsub, fun h => by simp at h⟩
      · exact ⟨sF, gF, nms_a, nms_c, asub, csub, fun h => by simp at h⟩
      · exact ⟨sF, gF, nms_b, nms_nil, bsub, nsub, fun h => by simp at h⟩
      · exact ⟨sF, gF, nms_ns, nms_nil, (fun x hx => hx), nsub, fun h => by simp at h⟩
    have hfor : lFor (lIter (lVar 16)) (gtTup 3 (gtCons (gtName 9) (gtCons (gtName 17) (gtCons (gtName 18) gtNil)))) (lSeq (lSet 19 (lCall 4 gs [] (aCons (lVar 12) (aCons (lVar 9) (aCons (lVar 17) (aCons (lVar 18) aNil)))))) (lSeq (lIfS (MP.tOr (MP.tNot (tTru (lIsi tabBlA (lVar 19)))) (tTru (lBin gNe (lVar 19) (lCall 4 gd [] (aCons (lVar 6) (aCons (lVar 9) (aCons (lVar 17) (aCons (lVar 18) aNil)))))))) (lRet (lC (.bl false))) lNext) (lIfS (tTru (lBin gNotB (lCall 4 gs [] (aCons (lCall 4 (crF T.C_Circle) [.non, .non, .int 1] (aCons lTup0 aNil)) (aCons (lVar 9) (aCons (lVar 17) (aCons (lVar 18) aNil))))) (lC (.bl false)))) (lRet (lC (.bl false))) lNext))) [some (.lst (zs.map D.int)), some (.int (k : Int)), some (.ref S.length), some (.lst (ns.map D.str)), some (.lst (os.map D.str)), some (.int dn), some (.ref (S.length + 1)), some (.str a), some (drD T.C_Drawing G), none, none, some (.ref (S.length + 2)), some (crD T.C_Circle ns (brs ns ns my)), some (drD T.C_Drawing F), some (.str c), some (.tup (B.map D.str)), some (.lst (asks.map (askD T.C_Drawing))), none, none, none, none] X' = .ok (.nx [some (.lst (zs.map D.int)), some (.int (k : Int)), some (.ref S.length), some (.lst (ns.map D.str)), some (.lst (os.map D.str)), some (.int dn), some (.ref (S.length + 1)), some (.str a), some (drD T.C_Drawing G), none, none, some (.ref (S.length + 2)), some (crD T.C_Circle ns (brs ns ns my)), some (drD T.C_Drawing F), some (.str c), some (.tup (B.map D.str)), some (.lst (asks.map (askD T.C_Drawing))), none, none, none, none]) X' := by
      refine for_ok (iter_ok rfl rfl) (for_const trivial _ fun d hd => ?_)
      obtain ⟨q, hq, rfl⟩ := List.mem_map.mp hd
      obtain ⟨q1, q2, q3, q4, q5, q6, q7⟩ := hgood q hq
      have e1 := Ss X' ns (brs ns ns my) q.1 q.2.1 q.2.2 hgc q1 q3 q4
      rw [shw_of hmy npw (fun p hp => ⟨q1.2 p hp, q2 p hp⟩) q5 q6] at e1
      have e2 := Sd X' (S.length + 1) ns os my q.1 q.2.1 q.2.2 hX1' hpm nms_ns hne q1 q2 q3 q4 q5 q6 hmy.len
      have e3 := Ss X' [] [] q.1 q.2.1 q.2.2 goodC_nil q1 q3 q4
      rw [shw_nobody hne q2 q7] at e3
      have b1 : lSet 19 (lCall 4 gs [] (aCons (lVar 12) (aCons (lVar 9) (aCons (lVar 17) (aCons (lVar 18) aNil))))) [some (.lst (zs.map D.int)), some (.int (k : Int)), some (.ref S.length), some (.lst (ns.map D.str)), some (.lst (os.map D.str)), some (.int dn), some (.ref (S.length + 1)), some (.str a), some (drD T.C_Drawing G), some (.tup (q.1.map (drD T.C_Drawing))), none, some (.ref (S.length + 2)), some (crD T.C_Circle ns (brs ns ns my)), some (drD T.C_Drawing F), some (.str c), some (.tup (B.map D.str)), some (.lst (asks.map (askD T.C_Drawing))), some (.tup (q.2.1.map D.str)), some (.tup (q.2.2.map D.str)), none, none] X' = .ok (.nx [some (.lst (zs.map D.int)), some (.int (k : Int)), some (.ref S.length), some (.lst (ns.map D.str)), some (.lst (os.map D.str)), some (.int dn), some (.ref (S.length + 1)), some (.str a), some (drD T.C_Drawing G), some (.tup (q.1.map (drD T.C_Drawing))), none, some (.ref (S.length + 2)), some (crD T.C_Circle ns (brs ns ns my)), some (drD T.C_Drawing F), some (.str c), some (.tup (B.map D.str)), some (.lst (asks.map (askD T.C_Drawing))), some (.tup (q.2.1.map D.str)), some (.tup (q.2.2.map D.str)), some (.bl (due my q.1 q.2.1 q.2.2)), none]) X' := set_ok (call_ok (acons_ok rfl (acons_ok rfl (acons_ok rfl (acons_ok rfl rfl)))) rfl e1)
      exact ⟨_, _, rfl, seq_nx b1 (seq_nx (if_ff (or_ff (not_ok (b := true) (tru_b (isi_ok rfl rfl) rfl)) (tru_b (bin_ok rfl (call_ok (acons_ok rfl (acons_ok rfl (acons_ok rfl (acons_ok rfl rfl)))) rfl e2) (neB _)) rfl)) rfl) (if_ff (tru_b (bin_ok (call_ok (acons_ok (call_ok (acons_ok rfl rfl) rfl crF_nil) (acons_ok rfl (acons_ok rfl (acons_ok rfl rfl)))) rfl e3) rfl rfl) rfl) rfl)), rfl⟩
    subst hX
    exact ⟨_, _, X', rfl, seq_nx h2 (seq_nx h3 (seq_nx h5 (seq_nx h6 (seq_nx h7 (seq_nx h11 (seq_nx h7b (seq_nx h12 (seq_nx h13 (seq_nx h8 (seq_nx h14 (seq_nx i1 (seq_nx h15 (seq_nx h16a (seq_nx h16b (seq_nx h16c hfor))))))))))))))), rfl⟩
  · intro S
    have e1 := Ss S [] [] [] [] [] goodC_nil ⟨.inl rfl, fun p hp => nomatch hp⟩ nms_nil nms_nil
    have e2 := Ss S [] [] [[]] [] [] goodC_nil ⟨.inr (.inl ⟨[], rfl⟩), fun p hp => by rw [List.mem_singleton.mp hp]; exact good_nil⟩ nms_nil nms_nil
    rw [show shw [] [] [] [] [] = false from rfl] at e1
    rw [show shw [] [] [[]] [] [] = false from rfl] at e2
    refine ⟨S, seq_nx (set_ok (call_ok (acons_ok rfl rfl) rfl crF_nil)) (ret_ok (andv_tt (d := .bl true) (bin_ok (call_ok (acons_ok rfl (acons_ok tup0 (acons_ok tup0 (acons_ok tup0 rfl)))) rfl e1) rfl rfl) rfl (bin_ok (call_ok (acons_ok rfl (acons_ok (tup_ok (acons_ok (call_ok (acons_ok rfl rfl) rfl (drF_of good_nil)) rfl) (by simp)) (acons_ok tup0 (acons_ok tup0 rfl)))) rfl e2) rfl rfl)))⟩
end
end K46

namespace MP
open PySem PySem.Spec PyProof.Rows L2
theorem dfl3 {K : PySem.W.Frag} {T : Addr} {a b c cls : Value} {n : Nat} {dd : Option Addr} {sl : Array (Option Value)} (h : K.lookup T = some ⟨cls, dd, .seq #[a, b, c] n, sl⟩) (ha : a = .none) (hb : b = .none) (hc : ∃ t, c = .int 1 t) : DflV K (.ref T) [.non, .non, .int 1] :=
  .inr ⟨by simp, T, _, [a, b, c], n, rfl, h, rfl, .cons ha (.cons hb (.cons hc .nil))⟩
end MP
namespace K46
open PySem PySem.Spec PyProof.Rows L2 MP
def spLaw (K : PySem.W.Frag) : Sp := fun vs H Q _ => ∃ (a : Addr) (ns : List Int), vs = [.ref a] ∧ SqL K H a (ns.map V.int) ∧ ns.length ≤ 63 ∧ ∀ H', Q (.bl true) H'
theorem sr_nil {K : PySem.W.Frag} {H : Hp} : SR K [] H [] := ⟨List.nodup_nil, rfl, fun i a o h => by simp at h⟩
theorem vr_script {K : PySem.W.Frag} {H : Hp} {a : Addr} {ns : List Int} (h : SqL K H a (ns.map V.int)) : VR K [] H (.ref a) (.lst (ns.map D.int)) := by
  rcases h with h | ⟨o, its, n, hk, h1, h2, h3, h4, h5⟩
  · exact .lst (by simp) h VRs.of_ints
  · exact .lstK hk h1 h2 h3 h4 h5 VRs.of_ints
section
variable {P : Program} {w : World} {K : PySem.W.Frag} {mg : Str → Option Value} {base : Heap}
theorem law_fn (T : T46 K mg) : MP.FnOk P w K mg base (L2.CX P w) 8 T.f_law T.fd_law ["_law_script"] (spLaw K) := by
  obtain ⟨g, Fn, Sl⟩ := ok_law (P := P) (w := w) (base := base) T
  refine MP.FnOk.imp Fn fun vs H Q E ⟨a, ns, e, hS, hl, k⟩ => ?_
  subst e
  obtain ⟨S', q⟩ := Sl ns hl
  have key : spL K g 1 [.ref a] H Q E := by
    refine ⟨rfl, [], [], [.lst (ns.map D.int)], sr_nil, .cons (vr_script hS) .nil, ?_, ?_, ?_⟩
    · rw [q]; intro z; cases z
    · intro d S2 q2 v H' z
      rw [q] at q2
      cases q2
      obtain ⟨m', e, x, w⟩ := z
      cases w
      exact k H'
    · intro C fs S2 q2
      rw [q] at q2
      cases q2
  exact key
theorem all_ {l : PySem.W.OpenLaw} {w : World} {K : PySem.W.Frag} {mg : Str → Option Value} {fa : Addr} (hfa : mg "law" = some (.ref fa)) (T : T46 K mg) :
    ∃ fd : FuncData, (∀ (s : Shared) (u : Value), BindsTo s fd ⟨[u], []⟩ [("_law_script", u)]) ∧ ∀ base : Heap, K.In base → base.Ns mainGlobals mg → MP.FnOk l.prog w K mg base (L2.CX l.prog w) 8 fa fd ["_law_script"] (spLaw K) := by
  have e := hfa.symm.trans T.mg_law
  cases e
  refine ⟨T.fd_law, fun s u => ?_, fun base _ _ => law_fn T⟩
  obtain ⟨oc, od, kV, doc, pm, an, cdv, ct, osl, e, lk, hcd⟩ := T.F_law.ex
  rw [e]
  exact .of_eq rfl
end
theorem walk {l : PySem.W.OpenLaw} {q : Program} {loose : List Str} {XP : (Str → Option Value) → Heap → Prop} {YP : World → Heap → Prop} {d : DefRec} {K : Params → PySem.W.Frag} (hn : l.most = some 63) (hdf : d.params.defaults = [])
    (hY : ∀ (w : World) (h : Heap), YP w h → (K w.params).In h)
    (F : ∀ (w : World) (mg : Str → Option Value) (fa : Addr) (h : Heap), (K w.params).In h → h.Ns mainGlobals mg → mg d.name = some (.ref fa) →
      ∃ fd : FuncData, (∀ (s : Shared) (u : Value), BindsTo s fd ⟨[u], []⟩ [("_law_script", u)]) ∧ ∀ base : Heap, (K w.params).In base → base.Ns mainGlobals mg → MP.FnOk l.prog w (K w.params) mg base (L2.CX l.prog w) 8 fa fd ["_law_script"] (spLaw (K w.params))) :
    PySem.W.WalkO q loose XP YP l.row.toRowW d [] (fun f vs => PySem.call f vs) :=
  MP.walk_ofG (n := 63) (k := 8) (x := "_law_script") (CX := fun w => L2.CX l.prog w) (sp := fun w => spLaw (K w.params)) hn (by decide) hdf (room_caller ⟨rfl, by decide, by decide⟩) hY F (fun _ _ a ns hl _ _ hS => ⟨a, ns, rfl, hS, hl, fun _ => rfl⟩) fun _ _ _ _ _ z => by
    obtain ⟨_, _, _, _, _, _, _, _, _, _, _, _, hE⟩ := z
    exact hE
end K46
open PySem PySem.W PyProof.Rows
set_option maxRecDepth 100000 in
set_option maxHeartbeats 0 in
theorem PySem.Challenge.cw_lotgivers_k46_years_shown_of_any_size_holds : PySem.Challenge.rw_lotgivers_k46_years_shown_of_any_size.Holds := by
  w_on; o_law; k_head; (case hw => w_witness2)
  k_fill
  refine K46.walk (l := PySem.Challenge.rw_lotgivers_k46_years_shown_of_any_size) rfl rfl (fun w h Y => PySem.W.kIn_of Y) ?F
  case F =>
    intro w mg fa h KX G hmg
    refine' K46.all_ hmg (K46.T46_mk KX G ?aC_Drawing ?aC_Circle ?a_is_name ?l_is_name ?c_is_name ?k_is_name ?a_is_pair ?l_is_pair ?c_is_pair ?k_is_pair ?a_does_rise ?l_does_rise ?c_does_rise ?k_does_rise ?a_are_pairs ?l_are_pairs ?c_are_pairs ?k_are_pairs ?a_are_drawn ?l_are_drawn ?c_are_drawn ?k_are_drawn ?a_Drawing___init__ ?i_Drawing___init__ ?l_Drawing___init__ ?c_Drawing___init__ ?k_Drawing___init__ ?a_keeps ?l_keeps ?c_keeps ?k_keeps ?a_broken ?l_broken ?c_broken ?k_broken ?a_are_members ?l_are_members ?c_are_members ?k_are_members ?a_are_years ?l_are_years ?c_are_years ?k_are_years ?a_pairs_between ?l_pairs_between ?c_pairs_between ?k_pairs_between ?a_shows_years ?l_shows_years ?c_shows_years ?k_shows_years ?a_Circle___init__ ?i_Circle___init__ ?l_Circle___init__ ?c_Circle___init__ ?k_Circle___init__ ?dv_Circle___init__ ?a_Circle_names ?i_Circle_names ?l_Circle_names ?c_Circle_names ?k_Circle_names ?a_Circle_house_of ?i_Circle_house_of ?l_Circle_house_of ?c_Circle_house_of ?k_Circle_house_of ?a_Circle_reason ?i_Circle_reason ?l_Circle_reason ?c_Circle_reason ?k_Circle_reason ?a_Circle_takers ?i_Circle_takers ?l_Circle_takers ?c_Circle_takers ?k_Circle_takers ?a__law_pot ?l__law_pot ?c__law_pot ?k__law_pot ?a__law_take ?l__law_take ?c__law_take ?k__law_take ?a__law_names ?l__law_names ?c__law_names ?k__law_names ?a__law_turned ?l__law_turned ?c__law_turned ?k__law_turned ?a__law_due ?l__law_due ?c__law_due ?k__law_due ?a_law ?l_law ?c_law ?k_law ?pg_Drawing ?hd_Drawing ?po_Drawing ?sa_Drawing ?mkk_Drawing ?kc_Drawing ?ha_Drawing ?hn_Drawing ?ht_Drawing ?hm_Drawing ?na_Drawing_pairs ?pg_Circle ?hd_Circle ?po_Circle ?sa_Circle ?mkk_Circle ?kc_Circle ?ha_Circle ?hn_Circle ?ht_Circle ?hm_Circle ?na_Circle_members ?na_Circle_bars ?na_Circle_past ?na_Circle_gap ?na_Circle_houses ?na_Circle_names_told ?na_Circle_barred ?na_Circle_gone_by ?g_LETTERS ?g_MOST_LETTERS ?n_len ?n_abs ?n_all ?n_any ?n_range ?n_isinstance ?n_list ?n_tuple ?n_str ?n_sorted ?n_zip ?n_set ?n_max ?n_min ?n_dict ?n_sum ?n_int ?n_bool ?nd)
    (case aC_Drawing => k_is)
    (case aC_Circle => k_is)
    (case a_is_name => k_is)
    (case l_is_name => k_is)
    (case c_is_name => k_is)
    (case k_is_name => k_is)
    (case a_is_pair => k_is)
    (case l_is_pair => k_is)
    (case c_is_pair => k_is)
    (case k_is_pair => k_is)
    (case a_does_rise => k_is)
    (case l_does_rise => k_is)
    (case c_does_rise => k_is)
    (case k_does_rise => k_is)
    (case a_are_pairs => k_is)
    (case l_are_pairs => k_is)
    (case c_are_pairs => k_is)
    (case k_are_pairs => k_is)
    (case a_are_drawn => k_is)
    (case l_are_drawn => k_is)
    (case c_are_drawn => k_is)
    (case k_are_drawn => k_is)
    (case a_Drawing___init__ => k_is)
    (case i_Drawing___init__ => k_is)
    (case l_Drawing___init__ => k_is)
    (case c_Drawing___init__ => k_is)
    (case k_Drawing___init__ => k_is)
    (case a_keeps => k_is)
    (case l_keeps => k_is)
    (case c_keeps => k_is)
    (case k_keeps => k_is)
    (case a_broken => k_is)
    (case l_broken => k_is)
    (case c_broken => k_is)
    (case k_broken => k_is)
    (case a_are_members => k_is)
    (case l_are_members => k_is)
    (case c_are_members => k_is)
    (case k_are_members => k_is)
    (case a_are_years => k_is)
    (case l_are_years => k_is)
    (case c_are_years => k_is)
    (case k_are_years => k_is)
    (case a_pairs_between => k_is)
    (case l_pairs_between => k_is)
    (case c_pairs_between => k_is)
    (case k_pairs_between => k_is)
    (case a_shows_years => k_is)
    (case l_shows_years => k_is)
    (case c_shows_years => k_is)
    (case k_shows_years => k_is)
    (case a_Circle___init__ => k_is)
    (case i_Circle___init__ => k_is)
    (case l_Circle___init__ => k_is)
    (case c_Circle___init__ => k_is)
    (case k_Circle___init__ => k_is)
    (case dv_Circle___init__ => refine' MP.dfl3 ?lk ?d1 ?d2 ?d3; (case lk => k_is); (case d1 => rfl); (case d2 => rfl); (case d3 => exact ⟨_, rfl⟩))
    (case a_Circle_names => k_is)
    (case i_Circle_names => k_is)
    (case l_Circle_names => k_is)
    (case c_Circle_names => k_is)
    (case k_Circle_names => k_is)
    (case a_Circle_house_of => k_is)
    (case i_Circle_house_of => k_is)
    (case l_Circle_house_of => k_is)
    (case c_Circle_house_of => k_is)
    (case k_Circle_house_of => k_is)
    (case a_Circle_reason => k_is)
    (case i_Circle_reason => k_is)
    (case l_Circle_reason => k_is)
    (case c_Circle_reason => k_is)
    (case k_Circle_reason => k_is)
    (case a_Circle_takers => k_is)
    (case i_Circle_takers => k_is)
    (case l_Circle_takers => k_is)
    (case c_Circle_takers => k_is)
    (case k_Circle_takers => k_is)
    (case a__law_pot => k_is)
    (case l__law_pot => k_is)
    (case c__law_pot => k_is)
    (case k__law_pot => k_is)
    (case a__law_take => k_is)
    (case l__law_take => k_is)
    (case c__law_take => k_is)
    (case k__law_take => k_is)
    (case a__law_names => k_is)
    (case l__law_names => k_is)
    (case c__law_names => k_is)
    (case k__law_names => k_is)
    (case a__law_turned => k_is)
    (case l__law_turned => k_is)
    (case c__law_turned => k_is)
    (case k__law_turned => k_is)
    (case a__law_due => k_is)
    (case l__law_due => k_is)
    (case c__law_due => k_is)
    (case k__law_due => k_is)
    (case a_law => k_is)
    (case l_law => k_is)
    (case c_law => k_is)
    (case k_law => k_is)
    (case pg_Drawing => k_is)
    (case hd_Drawing => k_is)
    (case po_Drawing => k_is)
    (case sa_Drawing => k_is)
    (case mkk_Drawing => k_is)
    (case kc_Drawing => k_is)
    (case ha_Drawing => k_is)
    (case hn_Drawing => k_is)
    (case ht_Drawing => k_is)
    (case hm_Drawing => k_is)
    (case na_Drawing_pairs => k_is)
    (case pg_Circle => k_is)
    (case hd_Circle => k_is)
    (case po_Circle => k_is)
    (case sa_Circle => k_is)
    (case mkk_Circle => k_is)
    (case kc_Circle => k_is)
    (case ha_Circle => k_is)
    (case hn_Circle => k_is)
    (case ht_Circle => k_is)
    (case hm_Circle => k_is)
    (case na_Circle_members => k_is)
    (case na_Circle_bars => k_is)
    (case na_Circle_past => k_is)
    (case na_Circle_gap => k_is)
    (case na_Circle_houses => k_is)
    (case na_Circle_names_told => k_is)
    (case na_Circle_barred => k_is)
    (case na_Circle_gone_by => k_is)
    (case g_LETTERS => k_is)
    (case g_MOST_LETTERS => k_is)
    (case n_len => k_is)
    (case n_abs => k_is)
    (case n_all => k_is)
    (case n_any => k_is)
    (case n_range => k_is)
    (case n_isinstance => k_is)
    (case n_list => k_is)
    (case n_tuple => k_is)
    (case n_str => k_is)
    (case n_sorted => k_is)
    (case n_zip => k_is)
    (case n_set => k_is)
    (case n_max => k_is)
    (case n_min => k_is)
    (case n_dict => k_is)
    (case n_sum => k_is)
    (case n_int => k_is)
    (case n_bool => k_is)
    (case nd => k_is)
