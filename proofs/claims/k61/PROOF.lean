import PyProof.Rows.All
import Wide.All
import OpenK.AllK
import Wide.FinOn
import HandS.ExcInit
import HandS.ExcIs
import HandS.ExcField
import HandS.WordsExc
import HandS.ForMost
import HandS.Exc
import HandS.EndBits
import HandS.Wide
import HandS.TupAny
import HandS.TupMul
import HandS.Deep
import HandS.FStr
import HandS.RaiseMore
import HandS.IsInst
import HandS.ExcOwn
import HandS.Comp
import PyProof.CallFns
import HandS.Dict
import HandS.Small
import HandS.WordsDict
import KE.SortData
import PyProof.Rows.SortWalk
import HandS.Conv
import HandS.More
import KE.KDictSum
import PyProof.TupleOfSeq
import KE.KCallOwn
import HandS.ExcValue
import PyProof.StrOps2
import PyProof.ReprRoads
import HandS.Text
import HandS.StrMore
import PyProof.Rows.RuleB_pow
import HandS.Zip
import HandS.TupLe
import HandS.Strs
import HandS.Style
import HandS.Set
import HandS.SetFor
import KE.OsSortAny
import KE.KRevSl
import PyProof.ListRange
import PyProof.StrWalks
import HandS.Sort
import HandS.TupSets
import KE.KDictPairs
import KE.KDictKeyed
import KE.KDictZip
import KE.KDictItemsList
import KE.DataMinMax
import HandS.OwnEq
import HandS.Defaults
import KE.DataCmp
import PyProof.AutoSeq1
import KE.KIntText
import PyProof.Rows.Digits
import KE.GoesEnumKw
import HandS.CallLocal
import HandS.ListItems
import HandS.TryMany
import KE.KEqNest
import PyProof.Rows.StrCut
import PyProof.StrLawsChain
import KE.SortLaws
import PyProof.ReprLen
import PySem.Challenge.RW_lotgivers_k61_deeds_of_a_club
set_option Elab.async false
set_option linter.all false
set_option maxRecDepth 100000
set_option maxHeartbeats 4000000
/-! an own exception class over ValueError, made with keywords -/
namespace PySem.MPX
open PySem PySem.Spec PySem.HandSPX
section
variable {prog : Program} {w : World} {M : Model} {A : Around} {E : Value → Shared → Prop} {R : Result → Shared → Prop} {h : Heap} {g : Array GenState} {d : Drawn} {t : Nat} {os : OsState}
variable {nm q : Str} {C N : Addr} {bs bm bmB : List Value} {hdct : Bool} {sn : List Str} {sub : List Value} {ab : Bool} {col : Option Bool} {dd : Option Addr} {k0 k1 k2 k3 k5 : Option Value} {B newId initId : String}
end
end PySem.MPX

namespace MP
open PySem PySem.Spec PyProof.Rows L2

/-- an own class that takes ValueError's __init__ over -/
structure LInit (K : PySem.W.Frag) (L : Addr) (mc : Value) : Prop where
  rd : PySem.W.readsIn K L mc = true
  ga : PySem.W.specialIn K (.ref L) "__getattribute__" = some (some (.builtin "type.__getattribute__"))
  at_ : PySem.W.findCls K (.ref L) mc "__init__" = some (.val (.builtin "ValueError.__init__"))
section
variable {X : Cx} {e : Expr} {es : List Expr} {ta : TA} {p1 p2 pos : Pos}
end

/-- __init__ of one field, of two -/
def spE (K : PySem.W.Frag) (fs : List Str) : Sp := fun vs H Q _ => ∃ (e C : Addr) (ys : List V), vs = .ref e :: ys ∧ ys.length = fs.length ∧ OexC K C ∧ (∀ f ∈ fs, PySem.W.findIn K (.ref C) f = some none) ∧ H e = some (exo e C none) ∧
  ∀ dx, H dx = none → dx ≠ e → Q .non (upd (upd H dx (exd dx (fs.zip ys).reverse)) e (exo e C (some dx)))
end MP

namespace MP
open PySem PySem.Spec PyProof.Rows L2

/-- deep data: tuples, lists that nobody changes any more, dicts and objects likewise; ref: an object of the store -/
inductive D where
  | non | bl (b : Bool) | int (i : Int) | str (s : Str)
  | tup (xs : List D) | ftup (xs : List D) | lst (xs : List D) | dct (t : Bool) (kvs : List (D × D)) | obj (C : Addr) (fs : List (Str × D)) | exn (C : Addr) (fs : List (Str × D)) | ref (i : Nat)

inductive O where
  | lst (xs : List D) | dct (t : Bool) (kvs : List (D × D)) | ins (C : Addr) (fs : List (Str × D))

abbrev Sto := List O
abbrev Ev := List (Option D)

inductive R (α : Type) where
  | ok (a : α) (S : Sto)
  | exc (C : Addr) (fs : List (Str × D)) (S : Sto)
  | bad
def R.bind {α β : Type} (r : R α) (f : α → Sto → R β) : R β := match r with
  | .ok a S => f a S
  | .exc C fs S => .exc C fs S
  | .bad => .bad
theorem bind_ok {α β : Type} (a : α) (S : Sto) (f : α → Sto → R β) : (R.ok a S).bind f = f a S := rfl
def keyD : Key → D
  | .inl i => .int i
  | .inr s => .str s

/-- at a: an exception of the class at C, its dict (none | at d) -/
def ExV (C : Addr) (d : Option Addr) (a : Addr) : HO := .ext fun h => ∃ (oe : Obj) (vs : Array Value), h.get? a = some oe ∧ Zc (.ref C) d oe ∧ oe.data = .fields vs
/-- at dd: the dict of an exception -/
def XdAt (H : Hp) (dd : Addr) (fs : List (Str × V)) : Prop := H dd = some (exd dd fs) ∨ H dd = some (.xd fs)
theorem XdAt.has {H : Hp} {dd : Addr} {fs : List (Str × V)} (h : XdAt H dd fs) : ∃ o, H dd = some o := by
  rcases h with h | h
  · exact ⟨_, h⟩
  · exact ⟨_, h⟩

mutual
inductive VR (K : PySem.W.Frag) (m : List Addr) (H : Hp) : V → D → Prop where
  | non : VR K m H .non .non
  | bl (b : Bool) : VR K m H (.bl b) (.bl b)
  | int (i : Int) : VR K m H (.int i) (.int i)
  | str (s : Str) : VR K m H (.str s) (.str s)
  | tup {a : Addr} {vs : List V} {ds : List D} (h : H a = some (.tup vs)) (r : VRs K m H vs ds) : VR K m H (.ref a) (.tup ds)
  | ftup {a : Addr} {vs : List V} {ds : List D} {o : Obj} (hd : o.dict = none) (h : H a = some (.frz o (.tup vs))) (r : VRs K m H vs ds) : VR K m H (.ref a) (.ftup ds)
  | lst {a : Addr} {vs : List V} {ds : List D} (n : a ∉ m) (h : Rd H a (.lst vs)) (r : VRs K m H vs ds) : VR K m H (.ref a) (.lst ds)
  | lstK {a : Addr} {vs : List V} {ds : List D} {o : Obj} {its : Array Value} {n : Nat} (hk : K.lookup a = some o) (h1 : o.cls = .type "list") (h2 : o.dict = none) (h3 : o.data = .seq its n) (h4 : its.size ≤ sizeLine) (h5 : Vals vs its.toList) (r : VRs K m H vs ds) : VR K m H (.ref a) (.lst ds)
  | dct {a : Addr} {vs : List (Key × V)} {ds : List (D × D)} (n : a ∉ m) (h : H a = some (.dK vs)) (r : VDk K m H vs ds) : VR K m H (.ref a) (.dct false ds)
  | dctT {a : Addr} {vs : List (List Key × V)} {ds : List (D × D)} (n : a ∉ m) (h : H a = some (.dT vs)) (r : VDt K m H vs ds) : VR K m H (.ref a) (.dct true ds)
  | obj {a C dx : Addr} {fs : List (Str × V)} {gs : List (Str × D)} (n : a ∉ m) (h : H a = some (.ins C dx fs)) (r : VFs K m H fs gs) : VR K m H (.ref a) (.obj C gs)
  | exn0 {a C : Addr} (n : a ∉ m) (h : H a = some (ExV C none a)) : VR K m H (.ref a) (.exn C [])
  | exnD {a C dd : Addr} {fs : List (Str × V)} {gs : List (Str × D)} (n : a ∉ m) (nd : dd ∉ m) (h : H a = some (ExV C (some dd) a)) (hd : XdAt H dd fs) (r : VFs K m H fs gs) : VR K m H (.ref a) (.exn C gs)
  | ref {i : Nat} {a : Addr} (h : m[i]? = some a) : VR K m H (.ref a) (.ref i)
inductive VRs (K : PySem.W.Frag) (m : List Addr) (H : Hp) : List V → List D → Prop where
  | nil : VRs K m H [] []
  | cons {v : V} {d : D} {vs : List V} {ds : List D} (h : VR K m H v d) (r : VRs K m H vs ds) : VRs K m H (v :: vs) (d :: ds)
inductive VFs (K : PySem.W.Frag) (m : List Addr) (H : Hp) : List (Str × V) → List (Str × D) → Prop where
  | nil : VFs K m H [] []
  | cons {f : Str} {v : V} {d : D} {vs : List (Str × V)} {ds : List (Str × D)} (h : VR K m H v d) (r : VFs K m H vs ds) : VFs K m H ((f, v) :: vs) ((f, d) :: ds)
inductive VDk (K : PySem.W.Frag) (m : List Addr) (H : Hp) : List (Key × V) → List (D × D) → Prop where
  | nil : VDk K m H [] []
  | cons {k : Key} {v : V} {d : D} {vs : List (Key × V)} {ds : List (D × D)} (h : VR K m H v d) (r : VDk K m H vs ds) : VDk K m H ((k, v) :: vs) ((keyD k, d) :: ds)
inductive VDt (K : PySem.W.Frag) (m : List Addr) (H : Hp) : List (List Key × V) → List (D × D) → Prop where
  | nil : VDt K m H [] []
  | cons {k : List Key} {v : V} {d : D} {vs : List (List Key × V)} {ds : List (D × D)} (h : VR K m H v d) (r : VDt K m H vs ds) : VDt K m H ((k, v) :: vs) ((.tup (k.map keyD), d) :: ds)
end

/-- from (m, H) on: the store's places stay and grow by new ones; what is not in the store stays -/
structure Ext (m : List Addr) (H : Hp) (m' : List Addr) (H' : Hp) : Prop where
  pre : ∃ l, m' = m ++ l
  new : ∀ a ∈ m', a ∈ m ∨ H a = none
  keep : ∀ a o, a ∉ m → H a = some o → H' a = some o

inductive OR (K : PySem.W.Frag) (m : List Addr) (H : Hp) (a : Addr) : O → Prop where
  | lst {vs : List V} {ds : List D} (h : H a = some (.lst vs)) (r : VRs K m H vs ds) : OR K m H a (.lst ds)
  | dct {vs : List (Key × V)} {ds : List (D × D)} (h : H a = some (.dK vs)) (r : VDk K m H vs ds) : OR K m H a (.dct false ds)
  | dctT {vs : List (List Key × V)} {ds : List (D × D)} (h : H a = some (.dT vs)) (r : VDt K m H vs ds) : OR K m H a (.dct true ds)
  | ins {C dx : Addr} {fs : List (Str × V)} {gs : List (Str × D)} (h : H a = some (.ins C dx fs)) (r : VFs K m H fs gs) : OR K m H a (.ins C gs)

structure SR (K : PySem.W.Frag) (m : List Addr) (H : Hp) (S : Sto) : Prop where
  nd : m.Nodup
  len : m.length = S.length
  at_ : ∀ (i : Nat) (a : Addr) (o : O), m[i]? = some a → S[i]? = some o → OR K m H a o

theorem OR.mut {K : PySem.W.Frag} {m : List Addr} {H : Hp} {a : Addr} {o : O} (h : OR K m H a o) : Mut (H a) := by
  cases h with
  | lst h _ => rw [h]; trivial
  | dct h _ => rw [h]; trivial
  | dctT h _ => rw [h]; trivial
  | ins h _ => rw [h]; trivial
theorem SR.mut {K : PySem.W.Frag} {m : List Addr} {H : Hp} {S : Sto} (x : SR K m H S) {a : Addr} (h : a ∈ m) : Mut (H a) := by
  obtain ⟨i, hi, e⟩ := List.mem_iff_getElem.mp h
  have hs : i < S.length := x.len ▸ hi
  exact (x.at_ i a S[i] (by rw [List.getElem?_eq_getElem hi, e]) (List.getElem?_eq_getElem hs)).mut
theorem not_mut_tup {H : Hp} {a : Addr} {xs : List V} (h : Rd H a (.tup xs)) : ¬ Mut (H a) := by
  rcases h with h | ⟨o, h⟩
  · rw [h]; exact fun z => z
  · rw [h]; exact fun z => z
theorem Ext.refl {m : List Addr} {H : Hp} : Ext m H m H := ⟨⟨[], by simp⟩, fun a h => .inl h, fun _ _ _ h => h⟩
theorem Ext.sub {m m' : List Addr} {H H' : Hp} (e : Ext m H m' H') {a : Addr} (h : a ∈ m) : a ∈ m' := by
  obtain ⟨l, e⟩ := e.pre
  rw [e]; exact List.mem_append_left _ h
theorem Ext.trans {m m1 m2 : List Addr} {H H1 H2 : Hp} (a : Ext m H m1 H1) (b : Ext m1 H1 m2 H2) : Ext m H m2 H2 := by
  have key : ∀ c o, c ∉ m → H c = some o → c ∉ m1 := fun c o n e z => by
    rcases a.new c z with y | y
    · exact n y
    · rw [y] at e; cases e
  refine ⟨?_, fun c hc => ?_, fun c o n e => b.keep c o (key c o n e) (a.keep c o n e)⟩
  · obtain ⟨l, e⟩ := a.pre
    obtain ⟨k, f⟩ := b.pre
    exact ⟨l ++ k, by rw [f, e, List.append_assoc]⟩
  · by_cases hm : c ∈ m
    · exact .inl hm
    · right
      cases q : H c with
      | none => rfl
      | some o =>
        rcases b.new c hc with y | y
        · exact absurd y (key c o hm q)
        · rw [a.keep c o hm q] at y; cases y
theorem Ext.rd {m m' : List Addr} {H H' : Hp} (e : Ext m H m' H') {a : Addr} {u : HO} (n : a ∉ m) (h : Rd H a u) : Rd H' a u := by
  rcases h with h | ⟨o, h⟩
  · exact .inl (e.keep a _ n h)
  · exact .inr ⟨o, e.keep a _ n h⟩
theorem Rd.has {H : Hp} {a : Addr} {u : HO} (h : Rd H a u) : ∃ o, H a = some o := by
  rcases h with h | ⟨o, h⟩
  · exact ⟨_, h⟩
  · exact ⟨_, h⟩
theorem Ext.nin {m m' : List Addr} {H H' : Hp} (e : Ext m H m' H') {a : Addr} (n : a ∉ m) (h : ∃ o, H a = some o) : a ∉ m' := fun z => by
  obtain ⟨o, h⟩ := h
  rcases e.new a z with y | y
  · exact n y
  · rw [y] at h; cases h
theorem Ext.get {m m' : List Addr} {H H' : Hp} (e : Ext m H m' H') {i : Nat} {a : Addr} (h : m[i]? = some a) : m'[i]? = some a := by
  obtain ⟨l, e⟩ := e.pre
  rw [e, List.getElem?_append_left (List.getElem?_eq_some_iff.mp h).1]
  exact h

section
variable {K : PySem.W.Frag} {m m' : List Addr} {H H' : Hp}
theorem frz_ext (e : Ext m H m' H') (mu : ∀ a ∈ m, Mut (H a)) {a : Addr} {o : Obj} {vs : List V} (h : H a = some (.frz o (.tup vs))) : H' a = some (.frz o (.tup vs)) :=
  e.keep _ _ (fun z => not_mut_tup (.inr ⟨o, h⟩) (mu a z)) h
theorem Rd.sup {H Hx : Hp} {a : Addr} {u : HO} (sup : ∀ b o, H b = some o → Hx b = some o) (h : Rd H a u) : Rd Hx a u := h.imp (sup _ _) fun ⟨o, e⟩ => ⟨o, sup _ _ e⟩
theorem SqT.rd {K : PySem.W.Frag} {H : Hp} {a : Addr} {xs : List V} (h : Rd H a (.tup xs)) : SqT K H a xs := .inl h
theorem tup_ext (e : Ext m H m' H') (mu : ∀ a ∈ m, Mut (H a)) {a : Addr} {vs : List V} (h : H a = some (.tup vs)) : H' a = some (.tup vs) :=
  e.keep _ _ (fun z => not_mut_tup (.inl h) (mu a z)) h
mutual
theorem VR.ext (e : Ext m H m' H') (mu : ∀ a ∈ m, Mut (H a)) {v : V} {d : D} : VR K m H v d → VR K m' H' v d
  | .non => .non
  | .bl b => .bl b
  | .int i => .int i
  | .str s => .str s
  | .tup h r => .tup (tup_ext e mu h) (VRs.ext e mu r)
  | .ftup hd h r => .ftup hd (frz_ext e mu h) (VRs.ext e mu r)
  | .lst n h r => .lst (e.nin n (Rd.has h)) (e.rd n h) (VRs.ext e mu r)
  | .lstK hk h1 h2 h3 h4 h5 r => .lstK hk h1 h2 h3 h4 h5 (VRs.ext e mu r)
  | .dct n h r => .dct (e.nin n ⟨_, h⟩) (e.keep _ _ n h) (VDk.ext e mu r)
  | .dctT n h r => .dctT (e.nin n ⟨_, h⟩) (e.keep _ _ n h) (VDt.ext e mu r)
  | .obj n h r => .obj (e.nin n ⟨_, h⟩) (e.keep _ _ n h) (VFs.ext e mu r)
  | .exn0 n h => .exn0 (e.nin n ⟨_, h⟩) (e.keep _ _ n h)
  | .exnD n nd h hd r => .exnD (e.nin n ⟨_, h⟩) (e.nin nd hd.has) (e.keep _ _ n h) (hd.imp (e.keep _ _ nd) (e.keep _ _ nd)) (VFs.ext e mu r)
  | .ref h => .ref (e.get h)
theorem VRs.ext (e : Ext m H m' H') (mu : ∀ a ∈ m, Mut (H a)) {v : List V} {d : List D} : VRs K m H v d → VRs K m' H' v d
  | .nil => .nil
  | .cons h r => .cons (VR.ext e mu h) (VRs.ext e mu r)
theorem VFs.ext (e : Ext m H m' H') (mu : ∀ a ∈ m, Mut (H a)) {v : List (Str × V)} {d : List (Str × D)} : VFs K m H v d → VFs K m' H' v d
  | .nil => .nil
  | .cons h r => .cons (VR.ext e mu h) (VFs.ext e mu r)
theorem VDk.ext (e : Ext m H m' H') (mu : ∀ a ∈ m, Mut (H a)) {v : List (Key × V)} {d : List (D × D)} : VDk K m H v d → VDk K m' H' v d
  | .nil => .nil
  | .cons h r => .cons (VR.ext e mu h) (VDk.ext e mu r)
theorem VDt.ext (e : Ext m H m' H') (mu : ∀ a ∈ m, Mut (H a)) {v : List (List Key × V)} {d : List (D × D)} : VDt K m H v d → VDt K m' H' v d
  | .nil => .nil
  | .cons h r => .cons (VR.ext e mu h) (VDt.ext e mu r)
end
end

/-- the slots -/
structure ER (K : PySem.W.Frag) (m : List Addr) (H : Hp) (σ : L2.St) (ρ : Ev) : Prop where
  at_ : ∀ (i : Nat) (d : D), ρ[i]? = some (some d) → ∃ v, σ[i]? = some (some v) ∧ VR K m H v d
  len : ρ.length = σ.length
theorem ER.ext {K : PySem.W.Frag} {m m' : List Addr} {H H' : Hp} {σ : L2.St} {ρ : Ev} (r : ER K m H σ ρ) (e : Ext m H m' H') (mu : ∀ a ∈ m, Mut (H a)) : ER K m' H' σ ρ := ⟨fun i d h => by
  obtain ⟨v, h1, h2⟩ := r.at_ i d h
  exact ⟨v, h1, h2.ext e mu⟩, r.len⟩
theorem ER.set {K : PySem.W.Frag} {m : List Addr} {H : Hp} {σ : L2.St} {ρ : Ev} (r : ER K m H σ ρ) {i : Nat} {v : V} {d : D} (h : VR K m H v d) : ER K m H (σ.set i (some v)) (ρ.set i (some d)) := ⟨fun j d' e => by
  have hl := r.len
  by_cases hj : i = j
  · subst hj
    have hi : i < ρ.length := by
      have := (List.getElem?_eq_some_iff.mp e).1
      simpa using this
    rw [List.getElem?_set_self hi] at e
    cases e
    exact ⟨v, by rw [List.getElem?_set_self (by omega)], h⟩
  · rw [List.getElem?_set_ne hj] at e ⊢
    exact r.at_ j d' e, by simp [r.len]⟩

/-- what an expression is worth -/
abbrev LE := Ev → Sto → R D
/-- behind an expression -/
def VP (X : Cx) (pins : List (Addr × Obj)) (σ : L2.St) (m : List Addr) (H : Hp) (d : D) (S' : Sto) (u : Value) (s' : Shared) : Prop :=
  ∃ v H' m', Inv X pins σ H' s' ∧ RelV v u ∧ Ext m H m' H' ∧ SR X.K m' H' S' ∧ VR X.K m' H' v d
def VPr (X : Cx) (pins : List (Addr × Obj)) (σ : L2.St) (m : List Addr) (H : Hp) (r : R D) (u : Value) (s' : Shared) : Prop := ∃ d S', r = .ok d S' ∧ VP X pins σ m H d S' u s'
/-- the dict of an exception, or none -/
def XD (K : PySem.W.Frag) (m' : List Addr) (H' : Hp) (d : Option Addr) (fs : List (Str × D)) : Prop := (∃ (dd : Addr) (vs : List (Str × V)), d = some dd ∧ H' dd = some (.xd vs) ∧ VFs K m' H' vs fs) ∨ (d = none ∧ fs = [])
/-- an exception that leaves, by the store -/
def WL (K : PySem.W.Frag) (m : List Addr) (H : Hp) (C : Addr) (fs : List (Str × D)) (S' : Sto) : Value → Option Addr → Hp → Prop := fun cls d H' =>
  cls = .ref C ∧ ∃ (m' : List Addr), XD K m' H' d fs ∧ Ext m H m' H' ∧ SR K m' H' S'
def Hope (X : Cx) (σ : L2.St) (m : List Addr) (H : Hp) {α : Type} (r : R α) : Prop :=
  r ≠ .bad ∧ ∀ C fs S', r = .exc C fs S' → ∀ u s', XE X (fun cls d σ' H' => σ' = σ ∧ WL X.K m H C fs S' cls d H') u s' → X.xe u s'
theorem WL.ext {K : PySem.W.Frag} {m m1 : List Addr} {H H1 : Hp} {C : Addr} {fs : List (Str × D)} {S' : Sto} {cls : Value} {d : Option Addr} {H' : Hp} (e : Ext m H m1 H1) (w : WL K m1 H1 C fs S' cls d H') : WL K m H C fs S' cls d H' := by
  obtain ⟨h1, m', h2, h4, h5⟩ := w
  exact ⟨h1, m', h2, e.trans h4, h5⟩
theorem XE.imp {X : Cx} {W W' : WX} {u : Value} {s' : Shared} (x : XE X W u s') (h : ∀ c d σ H, W c d σ H → W' c d σ H) : XE X W' u s' := by
  obtain ⟨a, B, sI, pins, σ, H, cls, d, e, I, nb, up, sky, na, os, ag, w⟩ := x
  exact ⟨a, B, sI, pins, σ, H, cls, d, e, I, nb, up, sky, na, os, ag, h _ _ _ _ w⟩
theorem Hope.ext {X : Cx} {σ : L2.St} {m m1 : List Addr} {H H1 : Hp} {α : Type} {r : R α} (h : Hope X σ m H r) (e : Ext m H m1 H1) : Hope X σ m1 H1 r :=
  ⟨h.1, fun C fs S' q u s' x => h.2 C fs S' q u s' (XE.imp x fun _ _ _ _ z => ⟨z.1, z.2.ext e⟩)⟩
theorem Hope.ok {X : Cx} {σ : L2.St} {m : List Addr} {H : Hp} {α : Type} {a : α} {S : Sto} : Hope X σ m H (R.ok a S) := ⟨fun z => (nomatch z), fun _ _ _ q => (nomatch q)⟩
theorem Hope.exc {X : Cx} {σ : L2.St} {m : List Addr} {H : Hp} {α β : Type} {C : Addr} {fs : List (Str × D)} {S : Sto} (h : Hope X σ m H (R.exc C fs S : R α)) : Hope X σ m H (R.exc C fs S : R β) :=
  ⟨fun z => (nomatch z), fun C' fs' S' q => by cases q; exact h.2 _ _ _ rfl⟩

structure PEL (X : Cx) (e : Expr) (l : LE) : Prop where
  run : ∀ (pins : List (Addr × Obj)) (s : Shared) (σ : L2.St) (H : Hp) (m : List Addr) (ρ : Ev) (S : Sto), Inv X pins σ H s → SR X.K m H S → ER X.K m H σ ρ → Hope X σ m H (l ρ S) →
    wpAny (model X.prog X.w) X.A (eval e X.env) (VPr X pins σ m H (l ρ S)) X.xe s
/-- a test -/
abbrev LT := Ev → Sto → R Bool
def TPr (X : Cx) (pins : List (Addr × Obj)) (σ : L2.St) (m : List Addr) (H : Hp) (r : R Bool) (b : Bool) (s' : Shared) : Prop :=
  ∃ S' H' m', r = .ok b S' ∧ Inv X pins σ H' s' ∧ Ext m H m' H' ∧ SR X.K m' H' S'
structure PTL (X : Cx) (e : Expr) (l : LT) : Prop where
  run : ∀ (pins : List (Addr × Obj)) (s : Shared) (σ : L2.St) (H : Hp) (m : List Addr) (ρ : Ev) (S : Sto), Inv X pins σ H s → SR X.K m H S → ER X.K m H σ ρ → Hope X σ m H (l ρ S) →
    wpAny (model X.prog X.w) X.A (isTrue e X.env (eval e X.env)) (TPr X pins σ m H (l ρ S)) X.xe s
/-- arguments -/
abbrev LA := Ev → Sto → R (List D)
def APr (X : Cx) (pins : List (Addr × Obj)) (σ : L2.St) (m : List Addr) (H : Hp) (r : R (List D)) (us : List Value) (s' : Shared) : Prop :=
  ∃ ds S' vs H' m', r = .ok ds S' ∧ Inv X pins σ H' s' ∧ Vals vs us ∧ Ext m H m' H' ∧ SR X.K m' H' S' ∧ VRs X.K m' H' vs ds
structure PAL (X : Cx) (es : List Expr) (l : LA) : Prop where
  run : ∀ (pos : Pos) (pins : List (Addr × Obj)) (s : Shared) (σ : L2.St) (H : Hp) (m : List Addr) (ρ : Ev) (S : Sto), Inv X pins σ H s → SR X.K m H S → ER X.K m H σ ρ → Hope X σ m H (l ρ S) →
    wpAny (model X.prog X.w) X.A (spliced (backTo pos (starEach es X.env))) (APr X pins σ m H (l ρ S)) X.xe s
end MP

namespace MP
open PySem PySem.Spec PyProof.Rows L2

section
variable {K : PySem.W.Frag} {m : List Addr} {H : Hp} {S : Sto} {p : Addr} {o : HO}
theorem SR.muts (x : SR K m H S) : ∀ a ∈ m, Mut (H a) := fun _ h => x.mut h
theorem SR.nin (x : SR K m H S) (h : H p = none) : p ∉ m := fun z => by
  have := x.mut z
  rw [h] at this; exact this
theorem Ext.fresh (h : H p = none) : Ext m H m (upd H p o) := ⟨⟨[], by simp⟩, fun a h => .inl h, fun a u _ e => by rw [upd_ne (ne_of_none e h)]; exact e⟩
theorem OR.ext {m' : List Addr} {H' : Hp} {a : Addr} {ob : O} (r : OR K m H a ob) (e : Ext m H m' H') (mu : ∀ a ∈ m, Mut (H a)) (h : H' a = H a) : OR K m' H' a ob := by
  cases r with
  | lst q r => exact .lst (h.trans q) (r.ext e mu)
  | dct q r => exact .dct (h.trans q) (r.ext e mu)
  | dctT q r => exact .dctT (h.trans q) (r.ext e mu)
  | ins q r => exact .ins (h.trans q) (r.ext e mu)
theorem SR.fresh (x : SR K m H S) (h : H p = none) : SR K m (upd H p o) S := ⟨x.nd, x.len, fun i a ob h1 h2 => (x.at_ i a ob h1 h2).ext (Ext.fresh h) x.muts (upd_ne fun z => x.nin h (z ▸ List.mem_iff_getElem?.mpr ⟨i, h1⟩))⟩

/-- what is wanted of a value and the heap behind, by the store -/
def QV (K : PySem.W.Frag) (m : List Addr) (H : Hp) (S' : Sto) (d : D) : VK := fun v H' => ∃ m', Ext m H m' H' ∧ SR K m' H' S' ∧ VR K m' H' v d
theorem qv_same (x : SR K m H S) {v : V} {d : D} (r : VR K m H v d) : QV K m H S d v H := ⟨m, Ext.refl, x, r⟩
theorem qv_new (x : SR K m H S) (h : H p = none) {v : V} {d : D} (r : VR K m (upd H p o) v d) : QV K m H S d v (upd H p o) := ⟨m, Ext.fresh h, x.fresh h, r⟩
theorem VRs.fresh (x : SR K m H S) (h : H p = none) {vs : List V} {ds : List D} (r : VRs K m H vs ds) : VRs K m (upd H p o) vs ds := r.ext (Ext.fresh h) x.muts
theorem VR.fresh (x : SR K m H S) (h : H p = none) {v : V} {d : D} (r : VR K m H v d) : VR K m (upd H p o) v d := r.ext (Ext.fresh h) x.muts
theorem vr_newTup (x : SR K m H S) (h : H p = none) {vs : List V} {ds : List D} (r : VRs K m H vs ds) : VR K m (upd H p (.tup vs)) (.ref p) (.tup ds) := .tup upd_same (r.fresh x h)
theorem vr_newLst (x : SR K m H S) (h : H p = none) {vs : List V} {ds : List D} (r : VRs K m H vs ds) : VR K m (upd H p (.lst vs)) (.ref p) (.lst ds) := .lst (x.nin h) (.inl upd_same) (r.fresh x h)
/-- a new object put into the store -/
theorem SR.snoc (x : SR K m H S) (h : H p = none) {ob : O} (r : ∀ m' H', Ext m H m' H' → H' p = some o → OR K m' H' p ob) : Ext m H (m ++ [p]) (upd H p o) ∧ SR K (m ++ [p]) (upd H p o) (S ++ [ob]) := by
  have e : Ext m H (m ++ [p]) (upd H p o) := ⟨⟨[p], rfl⟩, fun a ha => (List.mem_append.mp ha).imp id fun z => by
    rw [List.mem_singleton.mp z]; exact h, fun a u _ q => by rw [upd_ne (ne_of_none q h)]; exact q⟩
  refine ⟨e, List.nodup_append.mpr ⟨x.nd, by simp, fun a ha b hb z => ?_⟩, by simp [x.len], fun i a u h1 h2 => ?_⟩
  · rw [List.mem_singleton.mp hb] at z
    exact x.nin h (z ▸ ha)
  · by_cases hi : i < m.length
    · rw [List.getElem?_append_left hi] at h1
      rw [List.getElem?_append_left (x.len ▸ hi)] at h2
      exact (x.at_ i a u h1 h2).ext e x.muts (upd_ne fun z => x.nin h (z ▸ List.mem_iff_getElem?.mpr ⟨i, h1⟩))
    · have hl : i = m.length := by
        have := (List.getElem?_eq_some_iff.mp h1).1
        simp at this; omega
      subst hl
      rw [List.getElem?_append_right (Nat.le_refl _)] at h1
      rw [x.len, List.getElem?_append_right (Nat.le_refl _)] at h2
      simp at h1 h2
      subst h1 h2
      exact r _ _ e upd_same
theorem qv_newL (x : SR K m H S) (h : H p = none) {vs : List V} {ds : List D} (r : VRs K m H vs ds) : QV K m H (S ++ [.lst ds]) (.ref S.length) (.ref p) (upd H p (.lst vs)) := by
  obtain ⟨e, q⟩ := x.snoc (o := .lst vs) (ob := .lst ds) h fun m' H' e q => .lst q (r.ext e x.muts)
  exact ⟨_, e, q, .ref (by rw [← x.len]; simp)⟩
theorem VRs.length {vs : List V} {ds : List D} : VRs K m H vs ds → vs.length = ds.length
  | .nil => rfl
  | .cons _ r => by rw [List.length_cons, List.length_cons, r.length]
theorem VRs.append {vs ws : List V} {ds es : List D} : VRs K m H vs ds → VRs K m H ws es → VRs K m H (vs ++ ws) (ds ++ es)
  | .nil, s => s
  | .cons h r, s => .cons h (r.append s)
theorem VRs.take {vs : List V} {ds : List D} : ∀ (n : Nat), VRs K m H vs ds → VRs K m H (vs.take n) (ds.take n)
  | 0, _ => .nil
  | _ + 1, .nil => .nil
  | n + 1, .cons h r => .cons h (VRs.take n r)
theorem VRs.drop {vs : List V} {ds : List D} : ∀ (n : Nat), VRs K m H vs ds → VRs K m H (vs.drop n) (ds.drop n)
  | 0, r => r
  | _ + 1, .nil => .nil
  | n + 1, .cons h r => VRs.drop n r
theorem VRs.getr {vs : List V} {ds : List D} : ∀ {i : Nat} {d : D}, VRs K m H vs ds → ds[i]? = some d → ∃ v, vs[i]? = some v ∧ VR K m H v d
  | _, _, .nil, e => by simp at e
  | 0, _, .cons h _, e => by simp at e; subst e; exact ⟨_, rfl, h⟩
  | i + 1, d, .cons _ r, e => by
    obtain ⟨v, h1, h2⟩ := VRs.getr (i := i) (d := d) r (by simpa using e)
    exact ⟨v, by simpa using h1, h2⟩
theorem VRs.set {v : V} {d : D} (h : VR K m H v d) {vs : List V} {ds : List D} : ∀ (i : Nat), VRs K m H vs ds → VRs K m H (vs.set i v) (ds.set i d)
  | _, .nil => .nil
  | 0, .cons _ r => .cons h r
  | i + 1, .cons q r => .cons q (VRs.set h i r)
theorem VRs.eraseIdx {vs : List V} {ds : List D} : ∀ (i : Nat), VRs K m H vs ds → VRs K m H (vs.eraseIdx i) (ds.eraseIdx i)
  | _, .nil => .nil
  | 0, .cons _ r => r
  | i + 1, .cons q r => .cons q (VRs.eraseIdx i r)
theorem VRs.of_ints {ns : List Int} : VRs K m H (ns.map V.int) (ns.map D.int) := by
  induction ns with
  | nil => exact .nil
  | cons n ns ih => exact .cons (.int n) ih
end

/-- an object of the store as it stands -/
def vw (S : Sto) : D → D
  | .ref i => match S[i]? with
    | some (.lst xs) => .lst xs
    | some (.dct t kvs) => .dct t kvs
    | some (.ins C fs) => .obj C fs
    | none => .ref i
  | d => d
section
variable {K : PySem.W.Frag} {m : List Addr} {H : Hp} {S : Sto}
theorem vw_lst (x : SR K m H S) {v : V} {d : D} {xs : List D} (r : VR K m H v d) (e : vw S d = .lst xs) : ∃ a vs, v = .ref a ∧ SqL K H a vs ∧ VRs K m H vs xs := by
  cases r with
  | @lst a vs ds n h r => cases e; exact ⟨a, vs, rfl, .inl h, r⟩
  | @lstK a vs ds ob its n hk h1 h2 h3 h4 h5 r => cases e; exact ⟨a, vs, rfl, .inr ⟨ob, its, n, hk, h1, h2, h3, h4, h5⟩, r⟩
  | @ref i a h =>
    dsimp only [vw] at e
    cases q : S[i]? with
    | none => rw [q] at e; cases e
    | some ob =>
      have z := x.at_ i a ob h q
      rw [q] at e
      cases z with
      | lst h r => cases e; exact ⟨a, _, rfl, SqL.of h, r⟩
      | dct _ _ => cases e
      | dctT _ _ => cases e
      | ins _ _ => cases e
  | _ => cases e
theorem vw_tup {v : V} {d : D} {xs : List D} (r : VR K m H v d) (e : vw S d = .tup xs) : ∃ a vs, v = .ref a ∧ H a = some (.tup vs) ∧ VRs K m H vs xs := by
  cases r with
  | @tup a vs ds h r => cases e; exact ⟨a, vs, rfl, h, r⟩
  | @ref i a h =>
    dsimp only [vw] at e
    cases q : S[i]? with
    | none => rw [q] at e; cases e
    | some ob => rw [q] at e; cases ob <;> cases e
  | _ => cases e
theorem vw_ftup {v : V} {d : D} {xs : List D} (r : VR K m H v d) (e : vw S d = .ftup xs) : ∃ a vs, ∃ o : Obj, v = .ref a ∧ o.dict = none ∧ H a = some (.frz o (.tup vs)) ∧ VRs K m H vs xs := by
  cases r with
  | @ftup a vs ds o hd h r => cases e; exact ⟨a, vs, o, rfl, hd, h, r⟩
  | @ref i a h =>
    dsimp only [vw] at e
    cases q : S[i]? with
    | none => rw [q] at e; cases e
    | some ob => rw [q] at e; cases ob <;> cases e
  | _ => cases e
theorem vw_int {v : V} {d : D} {i : Int} (r : VR K m H v d) (e : vw S d = .int i) : v = .int i := by
  cases r with
  | int j => cases e; rfl
  | @ref i a h =>
    dsimp only [vw] at e
    cases q : S[i]? with
    | none => rw [q] at e; cases e
    | some ob => rw [q] at e; cases ob <;> cases e
  | _ => cases e
theorem vw_str {v : V} {d : D} {i : Str} (r : VR K m H v d) (e : vw S d = .str i) : v = .str i := by
  cases r with
  | str j => cases e; rfl
  | @ref i a h =>
    dsimp only [vw] at e
    cases q : S[i]? with
    | none => rw [q] at e; cases e
    | some ob => rw [q] at e; cases ob <;> cases e
  | _ => cases e
theorem vw_bl {v : V} {d : D} {i : Bool} (r : VR K m H v d) (e : vw S d = .bl i) : v = .bl i := by
  cases r with
  | bl j => cases e; rfl
  | @ref i a h =>
    dsimp only [vw] at e
    cases q : S[i]? with
    | none => rw [q] at e; cases e
    | some ob => rw [q] at e; cases ob <;> cases e
  | _ => cases e
theorem vw_obj (x : SR K m H S) {v : V} {d : D} {C : Addr} {gs : List (Str × D)} (r : VR K m H v d) (e : vw S d = .obj C gs) : ∃ a dx fs, v = .ref a ∧ H a = some (.ins C dx fs) ∧ VFs K m H fs gs := by
  cases r with
  | @obj a C dx fs gs n h r => cases e; exact ⟨a, dx, fs, rfl, h, r⟩
  | @ref i a h =>
    dsimp only [vw] at e
    cases q : S[i]? with
    | none => rw [q] at e; cases e
    | some ob =>
      have z := x.at_ i a ob h q
      rw [q] at e
      cases z with
      | ins h r => cases e; exact ⟨a, _, _, rfl, h, r⟩
      | dct _ _ => cases e
      | dctT _ _ => cases e
      | lst _ _ => cases e
  | _ => cases e
end

/-! ### rules by values -/
abbrev G2 := Sto → D → D → Option D
/-- an operation on two values; the store stays -/
structure OpL (X : Cx) (f : Value → Value → Sem Value) (g : G2) : Prop where
  run : ∀ (pins : List (Addr × Obj)) (s : Shared) (σ : L2.St) (H : Hp) (m : List Addr) (S : Sto) (x y : V) (dx dy d : D) (v u : Value), Inv X pins σ H s → SR X.K m H S → VR X.K m H x dx → VR X.K m H y dy → RelV x v → RelV y u → g S dx dy = some d →
    wpAny (model X.prog X.w) X.A (f v u) (VP X pins σ m H d S) X.xe s
theorem vp_of {X : Cx} {pins : List (Addr × Obj)} {σ : L2.St} {m : List Addr} {H : Hp} {S : Sto} {d : D} {u : Value} {s' : Shared} (h : EP X pins σ (QV X.K m H S d) u s') : VP X pins σ m H d S u s' := by
  obtain ⟨v, H', I, r, m', e, q, w⟩ := h
  exact ⟨v, H', m', I, r, e, q, w⟩
theorem OpL.of {X : Cx} {f : Value → Value → Sem Value} {r : R2} {g : G2} (h : OpR X f r)
    (hg : ∀ (H : Hp) (m : List Addr) (S : Sto) (x y : V) (dx dy d : D), SR X.K m H S → VR X.K m H x dx → VR X.K m H y dy → g S dx dy = some d → r x y H (QV X.K m H S d)) : OpL X f g :=
  ⟨fun pins s σ H m S x y dx dy d v u I q rx ry ex ey e => thn (h pins s σ H x y v u _ I ex ey (hg H m S x y dx dy d q rx ry e)) fun _ _ z => vp_of z⟩
theorem OpL.or {X : Cx} {f : Value → Value → Sem Value} {g g' : G2} (h : OpL X f g) (h' : OpL X f g') : OpL X f (fun S x y => (g S x y).or (g' S x y)) :=
  ⟨fun pins s σ H m S x y dx dy d v u I q rx ry ex ey e => by
    cases z : g S dx dy with
    | some d' =>
      rw [z] at e
      cases e
      exact h.run pins s σ H m S x y dx dy _ v u I q rx ry ex ey z
    | none =>
      rw [z] at e
      exact h'.run pins s σ H m S x y dx dy _ v u I q rx ry ex ey e⟩

def g2I (f : Int → Int → Option D) : G2 := fun S x y => match vw S x, vw S y with
  | .int i, .int j => f i j
  | _, _ => none
def g2S (f : Str → Str → Option D) : G2 := fun S x y => match vw S x, vw S y with
  | .str i, .str j => f i j
  | _, _ => none
def g2T (f : List D → List D → Option D) : G2 := fun S x y => match vw S x, vw S y with
  | .tup i, .tup j => f i j
  | _, _ => none
def g2L (f : List D → List D → Option D) : G2 := fun S x y => match vw S x, vw S y with
  | .lst i, .lst j => f i j
  | _, _ => none
theorem g2I_inv {f : Int → Int → Option D} {S : Sto} {x y d : D} (h : g2I f S x y = some d) : ∃ i j, vw S x = .int i ∧ vw S y = .int j ∧ f i j = some d := by
  unfold g2I at h
  split at h
  · exact ⟨_, _, ‹_›, ‹_›, h⟩
  · cases h
theorem g2S_inv {f : Str → Str → Option D} {S : Sto} {x y d : D} (h : g2S f S x y = some d) : ∃ i j, vw S x = .str i ∧ vw S y = .str j ∧ f i j = some d := by
  unfold g2S at h
  split at h
  · exact ⟨_, _, ‹_›, ‹_›, h⟩
  · cases h
theorem g2T_inv {f : List D → List D → Option D} {S : Sto} {x y d : D} (h : g2T f S x y = some d) : ∃ i j, vw S x = .tup i ∧ vw S y = .tup j ∧ f i j = some d := by
  unfold g2T at h
  split at h
  · exact ⟨_, _, ‹_›, ‹_›, h⟩
  · cases h
theorem g2L_inv {f : List D → List D → Option D} {S : Sto} {x y d : D} (h : g2L f S x y = some d) : ∃ i j, vw S x = .lst i ∧ vw S y = .lst j ∧ f i j = some d := by
  unfold g2L at h
  split at h
  · exact ⟨_, _, ‹_›, ‹_›, h⟩
  · cases h
section
variable {X : Cx}
/-- ints, under a condition -/
theorem opl_int {f : Value → Value → Sem Value} {C : Int → Int → Prop} {g : Int → Int → V} {g' : Int → Int → Option D} (h : OpR X f (rI C g)) (hg : ∀ i j d, g' i j = some d → C i j ∧ ∀ K m H, VR K m H (g i j) d) : OpL X f (g2I g') :=
  .of h fun H m S x y dx dy d q rx ry e => by
    obtain ⟨i, j, e1, e2, e3⟩ := g2I_inv e
    obtain ⟨c, z⟩ := hg i j d e3
    exact ⟨i, j, vw_int rx e1, vw_int ry e2, c, qv_same q (z _ _ _)⟩
theorem opl_int0 {f : Value → Value → Sem Value} {g : Int → Int → V} {g' : Int → Int → D} (h : OpR X f (rI0 g)) (hg : ∀ i j K m H, VR K m H (g i j) (g' i j)) : OpL X f (g2I fun i j => some (g' i j)) :=
  .of h fun H m S x y dx dy d q rx ry e => by
    obtain ⟨i, j, e1, e2, e3⟩ := g2I_inv e
    cases e3
    exact ⟨i, j, vw_int rx e1, vw_int ry e2, qv_same q (hg _ _ _ _ _)⟩

def gCat : G2 := g2T fun a b => if a.length + b.length ≤ sizeLine then some (.tup (a ++ b)) else none
def gCatL : G2 := g2L fun a b => if a.length + b.length ≤ sizeLine then some (.lst (a ++ b)) else none
def gAddI : G2 := g2I fun i j => some (.int (i + j))
def gAddS : G2 := g2S fun a b => if a.length + b.length ≤ sizeLine then some (.str (a ++ b)) else none
theorem opl_addI : OpL X (binaryOp .Add) gAddI := opl_int0 op_add fun i j _ _ _ => .int _
theorem opl_addS : OpL X (binaryOp .Add) gAddS := .of op_add_str fun H m S x y dx dy d q rx ry e => by
  obtain ⟨i, j, e1, e2, e3⟩ := g2S_inv e
  split at e3
  · cases e3
    exact ⟨i, j, vw_str rx e1, vw_str ry e2, ‹_›, qv_same q (.str _)⟩
  · cases e3
theorem VRs.nil_iff {K : PySem.W.Frag} {m : List Addr} {H : Hp} {vs : List V} {ds : List D} (r : VRs K m H vs ds) : vs = [] ↔ ds = [] := by
  cases r <;> simp
theorem opl_catT : OpL X (binaryOp .Add) gCat := .of op_catA fun H m S x y dx dy d q rx ry e => by
  obtain ⟨i, j, e1, e2, e3⟩ := g2T_inv e
  split at e3
  · cases e3
    obtain ⟨a, xs, rfl, ha, r1⟩ := vw_tup rx e1
    obtain ⟨b, ys, rfl, hb, r2⟩ := vw_tup ry e2
    refine ⟨a, b, xs, ys, rfl, rfl, SqT.of ha, SqT.of hb, by rw [r1.length, r2.length]; assumption, ?_⟩
    refine ⟨fun z => ?_, fun z z' => ?_, fun z z' p hp => ?_⟩
    · have z1 := r1.nil_iff.mp z
      subst z1
      exact qv_same q (.tup hb (by simpa using r2))
    · have z1 := r2.nil_iff.mp z'
      subst z1
      exact qv_same q (.tup ha (by simpa using r1))
    · exact qv_new q hp (vr_newTup q hp (r1.append r2))
  · cases e3
end
end MP

namespace MP
open PySem PySem.Spec PyProof.Rows L2

section
variable {X : Cx} {pins : List (Addr × Obj)} {σ : L2.St} {m m1 : List Addr} {H H1 : Hp} {ρ : Ev} {S S1 : Sto} {s : Shared}
theorem VPr.left {r : R D} {u : Value} {s' : Shared} (e : Ext m H m1 H1) (h : VPr X pins σ m1 H1 r u s') : VPr X pins σ m H r u s' := by
  obtain ⟨d, S', q, v, H', m', I, rv, e', x, w⟩ := h
  exact ⟨d, S', q, v, H', m', I, rv, e.trans e', x, w⟩
theorem TPr.left {r : R Bool} {u : Bool} {s' : Shared} (e : Ext m H m1 H1) (h : TPr X pins σ m1 H1 r u s') : TPr X pins σ m H r u s' := by
  obtain ⟨S', H', m', q, I, e', x⟩ := h
  exact ⟨S', H', m', q, I, e.trans e', x⟩
theorem APr.left {r : R (List D)} {u : List Value} {s' : Shared} (e : Ext m H m1 H1) (h : APr X pins σ m1 H1 r u s') : APr X pins σ m H r u s' := by
  obtain ⟨ds, S', vs, H', m', q, I, rv, e', x, w⟩ := h
  exact ⟨ds, S', vs, H', m', q, I, rv, e.trans e', x, w⟩
theorem vpr_of {d : D} {S' : Sto} {u : Value} {s' : Shared} (h : VP X pins σ m H d S' u s') : VPr X pins σ m H (.ok d S') u s' := ⟨d, S', rfl, h⟩

/-- an expression, then what goes on -/
theorem run_seq {α : Type} {e : Expr} {l : LE} (h : PEL X e l) (I : Inv X pins σ H s) (x : SR X.K m H S) (r : ER X.K m H σ ρ) {f : D → Sto → R α} (hp : Hope X σ m H ((l ρ S).bind f)) {Q : Value → Shared → Prop}
    (k : ∀ d S1, l ρ S = .ok d S1 → ∀ v u s1 H1 m1, Inv X pins σ H1 s1 → RelV v u → Ext m H m1 H1 → SR X.K m1 H1 S1 → VR X.K m1 H1 v d → ER X.K m1 H1 σ ρ → Hope X σ m1 H1 (f d S1) → Q u s1) :
    wpAny (model X.prog X.w) X.A (eval e X.env) Q X.xe s := by
  cases q : l ρ S with
  | bad => rw [q] at hp; exact absurd rfl hp.1
  | exc C fs S' =>
    rw [q] at hp
    have z := h.run pins s σ H m ρ S I x r (by rw [q]; exact hp.exc)
    rw [q] at z
    exact thn z fun u s' ⟨d, S2, e, _⟩ => nomatch e
  | ok d S1 =>
    rw [q] at hp
    have z := h.run pins s σ H m ρ S I x r (by rw [q]; exact Hope.ok)
    rw [q] at z
    refine thn z fun u s1 ⟨d', S2, e, v, H1, m1, I1, rv, ex, x1, w⟩ => ?_
    cases e
    exact k d S1 q v u s1 H1 m1 I1 rv ex x1 w (r.ext ex x.muts) (Hope.ext hp ex)
theorem run_seqT {α : Type} {e : Expr} {l : LT} (h : PTL X e l) (I : Inv X pins σ H s) (x : SR X.K m H S) (r : ER X.K m H σ ρ) {f : Bool → Sto → R α} (hp : Hope X σ m H ((l ρ S).bind f)) {Q : Bool → Shared → Prop}
    (k : ∀ b S1, l ρ S = .ok b S1 → ∀ s1 H1 m1, Inv X pins σ H1 s1 → Ext m H m1 H1 → SR X.K m1 H1 S1 → ER X.K m1 H1 σ ρ → Hope X σ m1 H1 (f b S1) → Q b s1) :
    wpAny (model X.prog X.w) X.A (isTrue e X.env (eval e X.env)) Q X.xe s := by
  cases q : l ρ S with
  | bad => rw [q] at hp; exact absurd rfl hp.1
  | exc C fs S' =>
    rw [q] at hp
    have z := h.run pins s σ H m ρ S I x r (by rw [q]; exact hp.exc)
    rw [q] at z
    exact thn z fun u s' ⟨S2, H', m', e, _⟩ => nomatch e
  | ok d S1 =>
    rw [q] at hp
    have z := h.run pins s σ H m ρ S I x r (by rw [q]; exact Hope.ok)
    rw [q] at z
    refine thn z fun u s1 ⟨S2, H1, m1, e, I1, ex, x1⟩ => ?_
    cases e
    exact k d S1 q s1 H1 m1 I1 ex x1 (r.ext ex x.muts) (Hope.ext hp ex)
theorem run_seqA {α : Type} {es : List Expr} {l : LA} {pos : Pos} (h : PAL X es l) (I : Inv X pins σ H s) (x : SR X.K m H S) (r : ER X.K m H σ ρ) {f : List D → Sto → R α} (hp : Hope X σ m H ((l ρ S).bind f)) {Q : List Value → Shared → Prop}
    (k : ∀ ds S1, l ρ S = .ok ds S1 → ∀ vs us s1 H1 m1, Inv X pins σ H1 s1 → Vals vs us → Ext m H m1 H1 → SR X.K m1 H1 S1 → VRs X.K m1 H1 vs ds → ER X.K m1 H1 σ ρ → Hope X σ m1 H1 (f ds S1) → Q us s1) :
    wpAny (model X.prog X.w) X.A (spliced (backTo pos (starEach es X.env))) Q X.xe s := by
  cases q : l ρ S with
  | bad => rw [q] at hp; exact absurd rfl hp.1
  | exc C fs S' =>
    rw [q] at hp
    have z := h.run pos pins s σ H m ρ S I x r (by rw [q]; exact hp.exc)
    rw [q] at z
    exact thn z fun u s' ⟨ds, S2, vs, H', m', e, _⟩ => nomatch e
  | ok d S1 =>
    rw [q] at hp
    have z := h.run pos pins s σ H m ρ S I x r (by rw [q]; exact Hope.ok)
    rw [q] at z
    refine thn z fun u s1 ⟨ds, S2, vs, H1, m1, e, I1, rv, ex, x1, w⟩ => ?_
    cases e
    exact k d S1 q vs u s1 H1 m1 I1 rv ex x1 w (r.ext ex x.muts) (Hope.ext hp ex)
end

section
variable {X : Cx} {a b c e : Expr} {la lb lc l : LE} {pos : Pos}
def lVar (i : Nat) : LE := fun ρ S => match ρ[i]? with
  | some (some d) => .ok d S
  | _ => .bad
theorem pel_var {i : Nat} {x : Str} (hN : X.N[i]? = some x := by rfl) (hv : Vis X.env.scope x := by first | exact Or.inl rfl | exact Or.inr (Or.inl rfl) | exact Or.inr (Or.inr rfl)) (hd : (x == ("__debug__" : Str)) = false := by decide) (hcd : (x == ("__classdict__" : Str)) = false := by decide) :
    PEL X (.Name x pos) (lVar i) := by
  refine ⟨fun pins s σ H m ρ S I x r hp => ?_⟩
  unfold lVar at hp ⊢
  split at hp
  · rename_i d e
    obtain ⟨v, h1, h2⟩ := r.at_ i d e
    exact thn ((pe_var hN hv hd hcd).run pins s σ H (QV X.K m H S d) I ⟨v, h1, qv_same x h2⟩) fun u s' q => vpr_of (vp_of q)
  · exact absurd rfl hp.1
/-- an expression of the layer whose value is known -/
def lC (d : D) : LE := fun _ S => .ok d S
theorem pel_c {v : V} {d : D} (h : PE X e (tC v)) (hv : ∀ K m H, VR K m H v d) : PEL X e (lC d) :=
  ⟨fun pins s σ H m ρ S I x r hp => thn (h.run pins s σ H (QV X.K m H S d) I (qv_same x (hv _ _ _))) fun u s' q => vpr_of (vp_of q)⟩
theorem pel_int {i : Int} {j : Nat} : PEL X (.Constant (.int i) j pos) (lC (.int i)) := pel_c pe_int fun _ _ _ => .int i
theorem pel_bl {i : Bool} {j : Nat} : PEL X (.Constant (.bool i) j pos) (lC (.bl i)) := pel_c pe_bl fun _ _ _ => .bl i
theorem pel_non {j : Nat} : PEL X (.Constant .none j pos) (lC .non) := pel_c pe_non fun _ _ _ => .non
theorem pel_str {i : Str} {j : Nat} : PEL X (.Constant (.str i) j pos) (lC (.str i)) := pel_c pe_str fun _ _ _ => .str i
def lift1 (o : Option D) (S : Sto) : R D := match o with
  | some d => .ok d S
  | none => .bad
def lBin (g : G2) (la lb : LE) : LE := fun ρ S => (la ρ S).bind fun x S1 => (lb ρ S1).bind fun y S2 => lift1 (g S2 x y) S2
theorem lift_ok {o : Option D} {S : Sto} {X : Cx} {σ : L2.St} {m : List Addr} {H : Hp} (h : Hope X σ m H (lift1 o S)) : ∃ d, o = some d := by
  cases o with
  | none => exact absurd rfl h.1
  | some d => exact ⟨d, rfl⟩
theorem run_bin {g : G2} {f : Value → Value → Sem Value} (ha : PEL X a la) (hb : PEL X b lb) (ho : OpL X f g) {pins : List (Addr × Obj)} {s : Shared} {σ : L2.St} {H : Hp} {m : List Addr} {ρ : Ev} {S : Sto} (I : Inv X pins σ H s) (x : SR X.K m H S) (r : ER X.K m H σ ρ) (hp : Hope X σ m H (lBin g la lb ρ S)) :
    wpAny (model X.prog X.w) X.A (eval a X.env) (fun v s₁ => wpAny (model X.prog X.w) X.A (eval b X.env) (fun u s₂ => wpAny (model X.prog X.w) X.A (f v u) (VPr X pins σ m H (lBin g la lb ρ S)) X.xe s₂) X.xe s₁) X.xe s := by
  refine run_seq ha I x r hp fun dx S1 q1 v u s1 H1 m1 I1 rv e1 x1 w1 r1 hp1 => ?_
  refine run_seq hb I1 x1 r1 hp1 fun dy S2 q2 v2 u2 s2 H2 m2 I2 rv2 e2 x2 w2 r2 hp2 => ?_
  obtain ⟨d, q3⟩ := lift_ok hp2
  have e : lBin g la lb ρ S = .ok d S2 := by
    unfold lBin; rw [q1, bind_ok, q2, bind_ok, q3]; rfl
  rw [e]
  exact thn (ho.run pins s2 σ H2 m2 S2 v v2 dx dy d u u2 I2 x2 (w1.ext e2 x1.muts) w2 rv rv2 q3) fun _ _ z => (vpr_of z).left (e1.trans e2)
theorem pel_op {op : Operator} {g : G2} (ho : OpL X (binaryOp op) g) (ha : PEL X a la) (hb : PEL X b lb) : PEL X (.BinOp a op b pos) (lBin g la lb) :=
  ⟨fun pins s σ H m ρ S I x r hp => wpAny_BinOp (run_bin ha hb ho I x r hp)⟩
theorem pel_cmp {op : CmpOp} {g : G2} (ho : OpL X (compareOp op) g) (ha : PEL X a la) (hb : PEL X b lb) (hm : behindInMarks op b = false := by first | exact nobehind _ (by decide) (by decide) | rfl) : PEL X (.Compare a [op] [b] pos) (lBin g la lb) :=
  ⟨fun pins s σ H m ρ S I x r hp => wpAny_Compare1 (run_bin ha hb ho I x r hp) hm⟩
/-- a one-place operation -/
structure UnL (X : Cx) (f : Value → Sem Value) (g : Sto → D → Option D) : Prop where
  run : ∀ (pins : List (Addr × Obj)) (s : Shared) (σ : L2.St) (H : Hp) (m : List Addr) (S : Sto) (x : V) (dx d : D) (v : Value), Inv X pins σ H s → SR X.K m H S → VR X.K m H x dx → RelV x v → g S dx = some d →
    wpAny (model X.prog X.w) X.A (f v) (VP X pins σ m H d S) X.xe s
def lUn (g : Sto → D → Option D) (la : LE) : LE := fun ρ S => (la ρ S).bind fun x S1 => lift1 (g S1 x) S1
theorem pel_un {op : UnaryOp} {g : Sto → D → Option D} (ho : UnL X (unaryOp op) g) (ha : PEL X a la) : PEL X (.UnaryOp op a pos) (lUn g la) := by
  refine ⟨fun pins s σ H m ρ S I x r hp => ?_⟩
  refine UnaryOp_ (run_seq ha I x r hp fun dx S1 q1 v u s1 H1 m1 I1 rv e1 x1 w1 r1 hp1 => ?_)
  obtain ⟨d, q3⟩ := lift_ok hp1
  have e : lUn g la ρ S = .ok d S1 := by
    unfold lUn; rw [q1, bind_ok, q3]; rfl
  rw [e]
  exact thn (ho.run pins s1 σ H1 m1 S1 v dx d u I1 x1 w1 rv q3) fun _ _ z => (vpr_of z).left e1
def gNeg (S : Sto) : D → Option D
  | .int i => some (.int (-i))
  | _ => none
theorem unl_neg : UnL X (unaryOp .USub) gNeg := ⟨fun pins s σ H m S x dx d v I q rx ev e => by
  cases rx with
  | int i => cases e; exact thn (un_neg pins s σ H _ v _ I ev ⟨i, rfl, qv_same q (.int _)⟩) fun _ _ z => vp_of z
  | _ => cases e⟩

/-! ### tests -/
/-- truth of a value -/
def truth (S : Sto) (d : D) : Option Bool := match vw S d with
  | .non => some false
  | .bl b => some b
  | .int i => some (i != 0)
  | .str s => if s.length ≤ sizeLine then some ((s.length : Int) != 0) else none
  | .tup xs => some (!xs.isEmpty)
  | .lst xs => some (!xs.isEmpty)
  | .ftup xs => some (!xs.isEmpty)
  | _ => none
theorem tru_of {K : PySem.W.Frag} {m : List Addr} {H : Hp} {S : Sto} {v : V} {d : D} {k : Bool} (x : SR K m H S) (r : VR K m H v d) (h : truth S d = some k) : TruV K v H k := by
  unfold truth at h
  split at h
  · rename_i e
    have : v = .non := by
      cases r with
      | non => rfl
      | @ref i a h' =>
        dsimp only [vw] at e
        cases q : S[i]? with
        | none => rw [q] at e; cases e
        | some ob => rw [q] at e; cases ob <;> cases e
      | _ => cases e
    subst this; cases h; rfl
  · rename_i b e
    rw [vw_bl r e]; cases h; rfl
  · rename_i b e
    rw [vw_int r e]; cases h; rfl
  · rename_i b e
    rw [vw_str r e]
    split at h
    · cases h; exact ⟨‹_›, rfl⟩
    · cases h
  · rename_i b e
    obtain ⟨a, vs, rfl, h1, h2⟩ := vw_tup r e
    cases h
    exact .inr (.inl ⟨vs, SqT.of h1, by cases h2 <;> rfl⟩)
  · rename_i b e
    obtain ⟨a, vs, rfl, h1, h2⟩ := vw_lst x r e
    cases h
    exact .inl ⟨vs, h1, by cases h2 <;> rfl⟩
  · rename_i b e
    obtain ⟨a, vs, o, rfl, _, h1, h2⟩ := vw_ftup r e
    cases h
    exact .inr (.inl ⟨vs, SqT.rd (.inr ⟨o, h1⟩), by cases h2 <;> rfl⟩)
  · cases h
def liftB (o : Option Bool) (S : Sto) : R Bool := match o with
  | some d => .ok d S
  | none => .bad
def tTru (l : LE) : LT := fun ρ S => (l ρ S).bind fun d S1 => liftB (truth S1 d) S1
theorem liftB_ok {o : Option Bool} {S : Sto} {X : Cx} {σ : L2.St} {m : List Addr} {H : Hp} (h : Hope X σ m H (liftB o S)) : ∃ d, o = some d := by
  cases o with
  | none => exact absurd rfl h.1
  | some d => exact ⟨d, rfl⟩
theorem tru_run {pins : List (Addr × Obj)} {s s1 : Shared} {σ : L2.St} {H H1 : Hp} {m m1 : List Addr} {ρ : Ev} {S S1 : Sto} {d : D} {v : V} {u : Value} (q1 : l ρ S = .ok d S1) (I1 : Inv X pins σ H1 s1) (rv : RelV v u) (e1 : Ext m H m1 H1) (x1 : SR X.K m1 H1 S1) (w1 : VR X.K m1 H1 v d) (hp1 : Hope X σ m1 H1 (liftB (truth S1 d) S1)) :
    wpAny (model X.prog X.w) X.A (truthy u) (TPr X pins σ m H (tTru l ρ S)) X.xe s1 := by
  obtain ⟨b, q3⟩ := liftB_ok hp1
  have e : tTru l ρ S = .ok b S1 := by
    unfold tTru; rw [q1, bind_ok, q3]; rfl
  rw [e]
  refine thn (tru_ok pins s1 σ H1 v u (fun c H' => c = b ∧ H' = H1) I1 rv ⟨b, tru_of x1 w1 q3, rfl, rfl⟩) fun c s2 ⟨H2, I2, ec, eh⟩ => ?_
  subst ec eh
  exact ⟨S1, H2, m1, rfl, I2, e1, x1⟩
theorem ptl_truth (ha : PEL X a l) (he : ∀ whole, isTrue a X.env whole = (do let v ← whole; standAt a.pos; holding [v] (truthy v)) := by intro _; rfl) : PTL X a (tTru l) :=
  ⟨fun pins s σ H m ρ S I x r hp => isTrue_plain (run_seq ha I x r hp fun d S1 q1 v u s1 H1 m1 I1 rv e1 x1 w1 r1 hp1 => tru_run (s := s) q1 I1 rv e1 x1 w1 hp1) (he _)⟩
theorem ptl_cmp {op : CmpOp} {g : G2} (ho : OpL X (compareOp op) g) (ha : PEL X a la) (hb : PEL X b lb) (hm : behindInMarks op b = false := by first | exact nobehind _ (by decide) (by decide) | rfl) : PTL X (.Compare a [op] [b] pos) (tTru (lBin g la lb)) := by
  refine ⟨fun pins s σ H m ρ S I x r hp => ?_⟩
  have hp0 : Hope X σ m H (lBin g la lb ρ S) := by
    unfold tTru at hp
    cases q : lBin g la lb ρ S with
    | bad => rw [q] at hp; exact absurd rfl hp.1
    | exc C fs S' => rw [q] at hp; exact hp.exc
    | ok d S1 => exact Hope.ok
  refine wpAny_isTrue_Compare1 (thn (run_bin ha hb ho I x r hp0) fun v s1 h1 => thn h1 fun u s2 h2 => thn h2 fun w s3 ⟨d, S3, q, v3, H3, m3, I3, rv, e3, x3, w3⟩ => ?_) hm
  refine tru_run (s := s) q I3 rv e3 x3 w3 ?_
  unfold tTru at hp
  rw [q, bind_ok] at hp
  exact hp.ext e3
/-- and, or, not in tests -/
structure PWL (X : Cx) (e : Expr) (l : LT) : Prop where
  run : ∀ (whole : Sem Value) (pins : List (Addr × Obj)) (s : Shared) (σ : L2.St) (H : Hp) (m : List Addr) (ρ : Ev) (S : Sto), Inv X pins σ H s → SR X.K m H S → ER X.K m H σ ρ → Hope X σ m H (l ρ S) →
    wpAny (model X.prog X.w) X.A (isTrue e X.env whole) (TPr X pins σ m H (l ρ S)) X.xe s
theorem PWL.pt {l : LT} (h : PWL X e l) : PTL X e l := ⟨h.run _⟩
variable {ta tb tc : LT} {rest : List Expr}
def tAnd (ta tb : LT) : LT := fun ρ S => (ta ρ S).bind fun b S1 => if b = true then tb ρ S1 else .ok false S1
def tOr (ta tb : LT) : LT := fun ρ S => (ta ρ S).bind fun b S1 => if b = true then .ok true S1 else tb ρ S1
def tNot (ta : LT) : LT := fun ρ S => (ta ρ S).bind fun b S1 => .ok (!b) S1
theorem tpr_ok {pins : List (Addr × Obj)} {σ : L2.St} {H H1 : Hp} {m m1 : List Addr} {S1 : Sto} {b : Bool} {s1 : Shared} {r : R Bool} (I1 : Inv X pins σ H1 s1) (e1 : Ext m H m1 H1) (x1 : SR X.K m1 H1 S1) (q : r = .ok b S1) : TPr X pins σ m H r b s1 := ⟨S1, H1, m1, q, I1, e1, x1⟩
theorem pwl_and1 (ha : PTL X a ta) : PWL X (.BoolOp .And [a] pos) ta := by
  refine ⟨fun wh pins s σ H m ρ S I x r hp => ?_⟩
  refine isTrue_and (thn (ha.run pins s σ H m ρ S I x r hp) fun c s1 e => ?_)
  cases c with
  | true => exact isTrue_and_nil e
  | false => exact e
theorem pwl_or1 (ha : PTL X a ta) : PWL X (.BoolOp .Or [a] pos) ta := by
  refine ⟨fun wh pins s σ H m ρ S I x r hp => ?_⟩
  refine isTrue_or (thn (ha.run pins s σ H m ρ S I x r hp) fun c s1 e => ?_)
  cases c with
  | false => exact isTrue_or_nil e
  | true => exact e
theorem pwl_and (ha : PTL X a ta) (hb : PWL X (.BoolOp .And (b :: rest) pos) tb) : PWL X (.BoolOp .And (a :: b :: rest) pos) (tAnd ta tb) := by
  refine ⟨fun wh pins s σ H m ρ S I x r hp => ?_⟩
  refine isTrue_and (run_seqT ha I x r hp fun c S1 q1 s1 H1 m1 I1 e1 x1 r1 hp1 => ?_)
  cases c with
  | true =>
    have e : tAnd ta tb ρ S = tb ρ S1 := by unfold tAnd; rw [q1]; rfl
    rw [e]
    exact thn (hb.run wh pins s1 σ H1 m1 ρ S1 I1 x1 r1 hp1) fun _ _ z => z.left e1
  | false => exact tpr_ok I1 e1 x1 (by unfold tAnd; rw [q1]; rfl)
theorem pwl_or (ha : PTL X a ta) (hb : PWL X (.BoolOp .Or (b :: rest) pos) tb) : PWL X (.BoolOp .Or (a :: b :: rest) pos) (tOr ta tb) := by
  refine ⟨fun wh pins s σ H m ρ S I x r hp => ?_⟩
  refine isTrue_or (run_seqT ha I x r hp fun c S1 q1 s1 H1 m1 I1 e1 x1 r1 hp1 => ?_)
  cases c with
  | false =>
    have e : tOr ta tb ρ S = tb ρ S1 := by unfold tOr; rw [q1]; rfl
    rw [e]
    exact thn (hb.run wh pins s1 σ H1 m1 ρ S1 I1 x1 r1 hp1) fun _ _ z => z.left e1
  | true => exact tpr_ok I1 e1 x1 (by unfold tOr; rw [q1]; rfl)
theorem ptl_not (ha : PTL X a ta) : PTL X (.UnaryOp .Not a pos) (tNot ta) := by
  refine ⟨fun pins s σ H m ρ S I x r hp => ?_⟩
  refine isTrue_not (run_seqT ha I x r hp fun c S1 q1 s1 H1 m1 I1 e1 x1 r1 hp1 => ?_)
  exact tpr_ok I1 e1 x1 (by unfold tNot; rw [q1, bind_ok])
end
end MP

namespace MP
open PySem PySem.Spec PyProof.Rows L2

section
variable {X : Cx} {a b c e o : Expr} {la lb lc l lo : LE} {pos : Pos} {es rest : List Expr} {t : LA} {tc : LT}
/-! ### and, or, not, if .. else as values -/
def lAndV (la lb : LE) : LE := fun ρ S => (la ρ S).bind fun d S1 => (liftB (truth S1 d) S1).bind fun k S2 => if k = true then lb ρ S2 else .ok d S2
def lOrV (la lb : LE) : LE := fun ρ S => (la ρ S).bind fun d S1 => (liftB (truth S1 d) S1).bind fun k S2 => if k = true then .ok d S2 else lb ρ S2
def lNotV (la : LE) : LE := fun ρ S => (la ρ S).bind fun d S1 => (liftB (truth S1 d) S1).bind fun k S2 => .ok (.bl (!k)) S2
theorem pel_one {op : BoolOp} (h : PEL X a l) : PEL X (.BoolOp op [a] pos) l := ⟨fun pins s σ H m ρ S I x r hp => BoolOp_one (h.run pins s σ H m ρ S I x r hp)⟩
theorem bind_liftB {α : Type} {ob : Option Bool} {S : Sto} {f : Bool → Sto → R α} {X : Cx} {σ : L2.St} {m : List Addr} {H : Hp} (h : Hope X σ m H ((liftB ob S).bind f)) : ∃ k, ob = some k := by
  cases ob with
  | none => exact absurd rfl h.1
  | some k => exact ⟨k, rfl⟩
theorem tru_step {pins : List (Addr × Obj)} {s1 : Shared} {σ : L2.St} {H1 : Hp} {m1 : List Addr} {S1 : Sto} {d : D} {v : V} {u : Value} {k : Bool} (I1 : Inv X pins σ H1 s1) (rv : RelV v u) (x1 : SR X.K m1 H1 S1) (w1 : VR X.K m1 H1 v d) (hk : truth S1 d = some k) {Q : Bool → Shared → Prop}
    (h : ∀ s2, Inv X pins σ H1 s2 → Q k s2) : wpAny (model X.prog X.w) X.A (truthy u) Q X.xe s1 :=
  thn (tru_ok pins s1 σ H1 v u (fun c H' => c = k ∧ H' = H1) I1 rv ⟨k, tru_of x1 w1 hk, rfl, rfl⟩) fun c s2 ⟨H2, I2, ec, eh⟩ => by
    subst ec eh
    exact h s2 I2
theorem pel_and (ha : PEL X a la) (hb : PEL X (.BoolOp .And (b :: rest) pos) lb) : PEL X (.BoolOp .And (a :: b :: rest) pos) (lAndV la lb) := by
  refine ⟨fun pins s σ H m ρ S I x r hp => ?_⟩
  refine BoolOp_and (run_seq ha I x r hp fun d S1 q1 v u s1 H1 m1 I1 rv e1 x1 w1 r1 hp1 => ?_)
  obtain ⟨k, hk⟩ := bind_liftB hp1
  refine tru_step I1 rv x1 w1 hk fun s2 I2 => ?_
  have e0 : lAndV la lb ρ S = if k = true then lb ρ S1 else .ok d S1 := by unfold lAndV; rw [q1, bind_ok, hk]; rfl
  rw [hk] at hp1
  rw [e0]
  cases k with
  | true => exact thn (hb.run pins s2 σ H1 m1 ρ S1 I2 x1 r1 hp1) fun _ _ z => z.left e1
  | false => exact ⟨d, S1, rfl, v, H1, m1, I2, rv, e1, x1, w1⟩
theorem pel_or (ha : PEL X a la) (hb : PEL X (.BoolOp .Or (b :: rest) pos) lb) : PEL X (.BoolOp .Or (a :: b :: rest) pos) (lOrV la lb) := by
  refine ⟨fun pins s σ H m ρ S I x r hp => ?_⟩
  refine BoolOp_or (run_seq ha I x r hp fun d S1 q1 v u s1 H1 m1 I1 rv e1 x1 w1 r1 hp1 => ?_)
  obtain ⟨k, hk⟩ := bind_liftB hp1
  refine tru_step I1 rv x1 w1 hk fun s2 I2 => ?_
  have e0 : lOrV la lb ρ S = if k = true then .ok d S1 else lb ρ S1 := by unfold lOrV; rw [q1, bind_ok, hk]; rfl
  rw [hk] at hp1
  rw [e0]
  cases k with
  | false => exact thn (hb.run pins s2 σ H1 m1 ρ S1 I2 x1 r1 hp1) fun _ _ z => z.left e1
  | true => exact ⟨d, S1, rfl, v, H1, m1, I2, rv, e1, x1, w1⟩
theorem pel_not (ha : PEL X a la) : PEL X (.UnaryOp .Not a pos) (lNotV la) := by
  refine ⟨fun pins s σ H m ρ S I x r hp => ?_⟩
  refine UnaryOp_ (run_seq ha I x r hp fun d S1 q1 v u s1 H1 m1 I1 rv e1 x1 w1 r1 hp1 => ?_)
  obtain ⟨k, hk⟩ := bind_liftB hp1
  refine not_of (tru_step I1 rv x1 w1 hk fun s2 I2 => ?_)
  have e0 : lNotV la ρ S = .ok (.bl (!k)) S1 := by unfold lNotV; rw [q1, bind_ok, hk]; rfl
  rw [e0]
  exact ⟨_, S1, rfl, .bl (!k), H1, m1, I2, rfl, e1, x1, .bl _⟩
def lIf (t : LT) (la lb : LE) : LE := fun ρ S => (t ρ S).bind fun k S1 => if k = true then la ρ S1 else lb ρ S1
theorem pel_ifExp (hc : PTL X c tc) (ha : PEL X a la) (hb : PEL X b lb) : PEL X (.IfExp c a b pos) (lIf tc la lb) := by
  refine ⟨fun pins s σ H m ρ S I x r hp => ?_⟩
  refine wpAny_IfExp (run_seqT hc I x r hp fun k S1 q1 s1 H1 m1 I1 e1 x1 r1 hp1 => ?_)
  have e0 : lIf tc la lb ρ S = if k = true then la ρ S1 else lb ρ S1 := by unfold lIf; rw [q1]; rfl
  rw [e0]
  cases k with
  | true => exact thn (ha.run pins s1 σ H1 m1 ρ S1 I1 x1 r1 hp1) fun _ _ z => z.left e1
  | false => exact thn (hb.run pins s1 σ H1 m1 ρ S1 I1 x1 r1 hp1) fun _ _ z => z.left e1

/-! ### arguments, displays -/
def aNil : LA := fun _ S => .ok [] S
def aCons (la : LE) (t : LA) : LA := fun ρ S => (la ρ S).bind fun d S1 => (t ρ S1).bind fun ds S2 => .ok (d :: ds) S2
theorem pal_nil : PAL X [] aNil := ⟨fun pos pins s σ H m ρ S I x r hp => Calls.spliced_nil ⟨[], S, [], H, m, rfl, I, .nil, Ext.refl, x, .nil⟩⟩
theorem pal_cons (ha : PEL X e la) (hr : PAL X es t) (hs : starEach (e :: es) X.env = (false, eval e X.env) :: starEach es X.env := by rfl) : PAL X (e :: es) (aCons la t) := by
  refine ⟨fun pos pins s σ H m ρ S I x r hp => ?_⟩
  rw [hs]
  show wpAny _ _ (spliced ((false, eval e X.env) :: backTo pos (starEach es X.env))) _ _ s
  refine Calls.spliced_cons (run_seq ha I x r hp fun d S1 q1 v u s1 H1 m1 I1 rv e1 x1 w1 r1 hp1 => ?_)
  refine run_seqA hr I1 x1 r1 hp1 fun ds S2 q2 vs us s2 H2 m2 I2 rvs e2 x2 w2 r2 hp2 => ?_
  exact ⟨d :: ds, S2, v :: vs, H2, m2, by unfold aCons; rw [q1, bind_ok, q2, bind_ok], I2, .cons rv rvs, e1.trans e2, x2, .cons (w1.ext e2 x1.muts) w2⟩
def lTup (t : LA) : LE := fun ρ S => (t ρ S).bind fun ds S1 => if ds.length ≤ sizeLine then .ok (.tup ds) S1 else .bad
def lLst (t : LA) : LE := fun ρ S => (t ρ S).bind fun ds S1 => if ds.length ≤ sizeLine then .ok (.lst ds) S1 else .bad
/-- a list that is put into the store -/
def lLstN (t : LA) : LE := fun ρ S => (t ρ S).bind fun ds S1 => if ds.length ≤ sizeLine then .ok (.ref S1.length) (S1 ++ [.lst ds]) else .bad
theorem hope_if {α : Type} {p : Prop} [Decidable p] {r : R α} {X : Cx} {σ : L2.St} {m : List Addr} {H : Hp} (h : Hope X σ m H (if p then r else .bad)) : p := by
  by_cases q : p
  · exact q
  · rw [if_neg q] at h; exact absurd rfl h.1
theorem pel_tup {x1 : Nat} (h : PAL X es t) : PEL X (.Tuple es x1 pos) (lTup t) := by
  refine ⟨fun pins s σ H m ρ S I x r hp => ?_⟩
  refine wpAny_Tuple_spliced (run_seqA h I x r hp fun ds S1 q1 vs us s1 H1 m1 I1 rv e1 x1 w1 r1 hp1 => ?_)
  have hz := hope_if hp1
  refine ⟨by rw [← rv.length, w1.length]; exact hz, ?_⟩
  have hf : H1 s1.heap.objs.size = none := I1.hok.fresh (Nat.le_refl _)
  have e0 : lTup t ρ S = .ok (.tup ds) S1 := by unfold lTup; rw [q1, bind_ok, if_pos hz]
  rw [e0]
  refine (vpr_of ⟨.ref s1.heap.objs.size, upd H1 s1.heap.objs.size (.tup vs), m1, I1.laid (t' := s1.toks) (fun b u e => Heap.get?_push_of_some _ e) (Nat.le_refl _) ?_, rfl, Ext.fresh hf, x1.fresh hf, vr_newTup x1 hf w1⟩).left e1
  exact ⟨by rw [w1.length]; exact hz, us, rv, ⟨_, Heap.get?_push_size _ rfl, rfl, _, rfl⟩⟩
theorem pel_lst (h : PAL X es t) : PEL X (.List es pos) (lLst t) := by
  refine ⟨fun pins s σ H m ρ S I x r hp => ?_⟩
  refine wpAny_List_spliced (run_seqA h I x r hp fun ds S1 q1 vs us s1 H1 m1 I1 rv e1 x1 w1 r1 hp1 => ?_)
  have hz := hope_if hp1
  refine ⟨by rw [← rv.length, w1.length]; exact hz, ?_⟩
  have hf : H1 s1.heap.objs.size = none := I1.hok.fresh (Nat.le_refl _)
  have e0 : lLst t ρ S = .ok (.lst ds) S1 := by unfold lLst; rw [q1, bind_ok, if_pos hz]
  rw [e0]
  refine (vpr_of ⟨.ref s1.heap.objs.size, upd H1 s1.heap.objs.size (.lst vs), m1, I1.laid (t' := s1.toks) (fun b u e => Heap.get?_push_of_some _ e) (Nat.le_refl _) ?_, rfl, Ext.fresh hf, x1.fresh hf, vr_newLst x1 hf w1⟩).left e1
  exact ⟨by rw [w1.length]; exact hz, us, 0, rv, Heap.get?_push_size _ rfl⟩
theorem pel_lstN (h : PAL X es t) : PEL X (.List es pos) (lLstN t) := by
  refine ⟨fun pins s σ H m ρ S I x r hp => ?_⟩
  refine wpAny_List_spliced (run_seqA h I x r hp fun ds S1 q1 vs us s1 H1 m1 I1 rv e1 x1 w1 r1 hp1 => ?_)
  have hz := hope_if hp1
  refine ⟨by rw [← rv.length, w1.length]; exact hz, ?_⟩
  have hf : H1 s1.heap.objs.size = none := I1.hok.fresh (Nat.le_refl _)
  have e0 : lLstN t ρ S = .ok (.ref S1.length) (S1 ++ [.lst ds]) := by unfold lLstN; rw [q1, bind_ok, if_pos hz]
  rw [e0]
  obtain ⟨m', z1, z2, z3⟩ := qv_newL x1 hf w1
  refine (vpr_of ⟨.ref s1.heap.objs.size, upd H1 s1.heap.objs.size (.lst vs), m', I1.laid (t' := s1.toks) (fun b u e => Heap.get?_push_of_some _ e) (Nat.le_refl _) ?_, rfl, z1, z2, z3⟩).left e1
  exact ⟨by rw [w1.length]; exact hz, us, 0, rv, Heap.get?_push_size _ rfl⟩

/-! ### chains a < b < c -/
def lChain (g g' : G2) (la lb lc : LE) : LE := fun ρ S => (la ρ S).bind fun x S1 => (lb ρ S1).bind fun y S2 => (lift1 (g S2 x y) S2).bind fun d S3 => match d with
  | .bl true => (lc ρ S3).bind fun z S4 => lift1 (g' S4 y z) S4
  | .bl false => .ok (.bl false) S3
  | _ => .bad
end
end MP

namespace MP
open PySem PySem.Spec PyProof.Rows L2

section
variable {X : Cx} {a b c e o : Expr} {la lb lc l lo : LE} {pos p apos cpos : Pos} {es rest : List Expr} {t : LA} {tc : LT} {x : Str}
/-! ### subscripts -/
structure IxL (X : Cx) (g : G2) : Prop where
  run : ∀ (value slice : Expr) (pins : List (Addr × Obj)) (s : Shared) (σ : L2.St) (H : Hp) (m : List Addr) (S : Sto) (x y : V) (dx dy d : D) (v u : Value), Inv X pins σ H s → SR X.K m H S → VR X.K m H x dx → VR X.K m H y dy → RelV x v → RelV y u → g S dx dy = some d →
    (∀ o i, subscripted slice false o i = operate [o, i] (getItem o i)) → wpAny (model X.prog X.w) X.A (subscriptTail value slice v u) (VP X pins σ m H d S) X.xe s
theorem IxL.of {r : R2} {g : G2} (h : IxR X r)
    (hg : ∀ (H : Hp) (m : List Addr) (S : Sto) (x y : V) (dx dy d : D), SR X.K m H S → VR X.K m H x dx → VR X.K m H y dy → g S dx dy = some d → r x y H (QV X.K m H S d)) : IxL X g :=
  ⟨fun value slice pins s σ H m S x y dx dy d v u I q rx ry ex ey e hs => thn (h value slice pins s σ H x y v u _ I ex ey (hg H m S x y dx dy d q rx ry e) (hs _ _)) fun _ _ z => vp_of z⟩
theorem IxL.or {g g' : G2} (h : IxL X g) (h' : IxL X g') : IxL X (fun S x y => (g S x y).or (g' S x y)) :=
  ⟨fun value slice pins s σ H m S x y dx dy d v u I q rx ry ex ey e hs => by
    cases z : g S dx dy with
    | some d' =>
      rw [z] at e
      cases e
      exact h.run value slice pins s σ H m S x y dx dy _ v u I q rx ry ex ey z hs
    | none =>
      rw [z] at e
      exact h'.run value slice pins s σ H m S x y dx dy _ v u I q rx ry ex ey e hs⟩
theorem pel_ix {g : G2} (hr : IxL X g) (ha : PEL X a la) (hb : PEL X b lb) (hs : PlainIx b := by intro _ _; rfl) : PEL X (.Subscript a b pos) (lBin g la lb) := by
  refine ⟨fun pins s σ H m ρ S I x r hp => ?_⟩
  refine Subscript_ (run_seq ha I x r hp fun dx S1 q1 v u s1 H1 m1 I1 rv e1 x1 w1 r1 hp1 => run_seq hb I1 x1 r1 hp1 fun dy S2 q2 v2 u2 s2 H2 m2 I2 rv2 e2 x2 w2 r2 hp2 => ?_)
  obtain ⟨d, q3⟩ := lift_ok hp2
  have e : lBin g la lb ρ S = .ok d S2 := by
    unfold lBin; rw [q1, bind_ok, q2, bind_ok, q3]; rfl
  rw [e]
  exact thn (hr.run a b pins s2 σ H2 m2 S2 v v2 dx dy d u u2 I2 x2 (w1.ext e2 x1.muts) w2 rv rv2 q3 hs) fun _ _ z => (vpr_of z).left (e1.trans e2)
def gIx : G2 := fun S x y => match vw S x, vw S y with
  | .lst xs, .int i => atI xs i
  | .tup xs, .int i => atI xs i
  | .str z, .int i => if z.length ≤ sizeLine then (atI z.cps.toList i).map fun c => .str ⟨#[c]⟩ else none
  | _, _ => none
theorem VRs.atI {K : PySem.W.Frag} {m : List Addr} {H : Hp} {vs : List V} {ds : List D} {i : Int} {d : D} (r : VRs K m H vs ds) (e : atI ds i = some d) : ∃ v, L2.atI vs i = some v ∧ VR K m H v d := by
  unfold L2.atI at e ⊢
  rw [r.length]
  cases q : ixN ds.length i with
  | none => rw [q] at e; cases e
  | some j =>
    rw [q] at e
    exact r.getr e
theorem ixl_seq : IxL X gIx := .of ix_seq fun H m S x y dx dy d q rx ry e => by
  unfold gIx at e
  split at e
  · rename_i xs i e1 e2
    obtain ⟨a, vs, rfl, h1, r⟩ := vw_lst q rx e1
    obtain ⟨v, h2, w⟩ := r.atI e
    exact .inl ⟨a, vs, i, v, rfl, vw_int ry e2, h1, h2, qv_same q w⟩
  · rename_i xs i e1 e2
    obtain ⟨a, vs, rfl, h1, r⟩ := vw_tup rx e1
    obtain ⟨v, h2, w⟩ := r.atI e
    exact .inr (.inl ⟨a, vs, i, v, rfl, vw_int ry e2, SqT.of h1, h2, qv_same q w⟩)
  · rename_i z i e1 e2
    split at e
    · cases h : L2.atI z.cps.toList i with
      | none => rw [h] at e; cases e
      | some c =>
        rw [h] at e
        cases e
        exact .inr (.inr ⟨z, i, c, vw_str rx e1, vw_int ry e2, ‹_›, h, qv_same q (.str _)⟩)
    · cases e
  · cases e

/-! ### slices -/
abbrev LO := Ev → Sto → R (Option Int)
structure POL (X : Cx) (e : Option Expr) (l : LO) : Prop where
  run : ∀ (pins : List (Addr × Obj)) (s : Shared) (σ : L2.St) (H : Hp) (m : List Addr) (ρ : Ev) (S : Sto), Inv X pins σ H s → SR X.K m H S → ER X.K m H σ ρ → Hope X σ m H (l ρ S) →
    wpAny (model X.prog X.w) X.A (evalPart e X.env) (fun u s' => ∃ o S' H' m', l ρ S = .ok o S' ∧ Inv X pins σ H' s' ∧ IsPart u o ∧ Ext m H m' H' ∧ SR X.K m' H' S') X.xe s
def oNone : LO := fun _ S => .ok none S
def oSome (l : LE) : LO := fun ρ S => (l ρ S).bind fun d S1 => match d with
  | .int i => .ok (some i) S1
  | _ => .bad
theorem pol_none : POL X none oNone := ⟨fun pins s σ H m ρ S I x r hp => by
  rw [evalPart_none]
  exact wpAny_pure ⟨none, S, H, m, rfl, I, .none, Ext.refl, x⟩⟩
theorem pol_some (h : PEL X e l) : POL X (some e) (oSome l) := ⟨fun pins s σ H m ρ S I x r hp => by
  rw [evalPart_some]
  refine run_seq h I x r hp fun d S1 q1 v u s1 H1 m1 I1 rv e1 x1 w1 r1 hp1 => ?_
  cases w1 with
  | int i =>
    obtain ⟨t, rfl⟩ := rv
    exact ⟨some i, S1, H1, m1, by unfold oSome; rw [q1]; rfl, I1, .int i t, e1, x1⟩
  | _ => exact absurd rfl hp1.1⟩
def lSlice (g : Sto → D → Option Int → Option Int → Option D) (la : LE) (lo hi : LO) : LE := fun ρ S => (la ρ S).bind fun d S1 => (lo ρ S1).bind fun i S2 => (hi ρ S2).bind fun j S3 => lift1 (g S3 d i j) S3
structure SlL (X : Cx) (g : Sto → D → Option Int → Option Int → Option D) : Prop where
  run : ∀ (pins : List (Addr × Obj)) (s : Shared) (σ : L2.St) (H : Hp) (m : List Addr) (S : Sto) (x : V) (dx d : D) (v vl vu : Value) (lo hi : Option Int) (sl : Addr), Inv X pins σ H s → SR X.K m H S → VR X.K m H x dx → RelV x v → s.heap.IsSliceOf sl vl vu .none → IsPart vl lo → IsPart vu hi → g S dx lo hi = some d →
    ∃ T id, typeLookup (.type T) "__getitem__" = pure (some (.builtin id)) ∧ s.TypeIs v T ∧ wpAny (model X.prog X.w) X.A (getItem v (.ref sl)) (VP X pins σ m H d S) X.xe s
theorem hope_seq {α β : Type} {r : R α} {f : α → Sto → R β} {X : Cx} {σ : L2.St} {m : List Addr} {H : Hp} (h : Hope X σ m H (r.bind f)) : Hope X σ m H r := by
  cases r with
  | bad => exact absurd rfl h.1
  | exc C fs S' => exact h.exc
  | ok a S => exact Hope.ok
theorem pel_slice {g : Sto → D → Option Int → Option Int → Option D} {lo hi : Option Expr} {l1 l2 : LO} {p2 : Pos} (hr : SlL X g) (he : PEL X e l) (hl : POL X lo l1) (hu : POL X hi l2) : PEL X (.Subscript e (.Slice lo hi none p2) pos) (lSlice g l l1 l2) := by
  refine ⟨fun pins s σ H m ρ S I x r hp => ?_⟩
  refine Subscript_ (run_seq he I x r hp fun dx S1 q1 v u s1 H1 m1 I1 rv e1 x1 w1 r1 hp1 => ?_)
  refine wpAny_Slice (thn (hl.run pins s1 σ H1 m1 ρ S1 I1 x1 r1 (hope_seq hp1)) fun vl s2 ⟨i, S2, H2, m2, q2, I2, pl, e2, x2⟩ => ?_)
  rw [q2, bind_ok] at hp1
  have r2 := r1.ext e2 x1.muts
  have hp2 := Hope.ext hp1 e2
  refine thn (hu.run pins s2 σ H2 m2 ρ S2 I2 x2 r2 (hope_seq hp2)) fun vu s3 ⟨j, S3, H3, m3, q3, I3, pu, e3, x3⟩ => ?_
  rw [q3, bind_ok] at hp2
  obtain ⟨d, q4⟩ := lift_ok hp2
  rw [evalPart_none]
  refine wpAny_pure ?_
  have I4 : Inv X pins σ H3 { s3 with heap := s3.heap.push { cls := .type "slice", data := .fields #[vl, vu, .none] } } := I3.kept (t' := s3.toks) fun b ob q => Heap.get?_push_of_some _ q
  have w3 := (w1.ext e2 x1.muts).ext e3 x2.muts
  obtain ⟨T, id, hT, ht, hg⟩ := hr.run pins { s3 with heap := s3.heap.push { cls := .type "slice", data := .fields #[vl, vu, .none] } } σ H3 m3 S3 v dx d u vl vu i j s3.heap.objs.size I4 x3 w3 rv (Heap.IsSliceOf.new ..) pl pu q4
  have e0 : lSlice g l l1 l2 ρ S = .ok d S3 := by unfold lSlice; rw [q1, bind_ok, q2, bind_ok, q3, bind_ok, q4]; rfl
  rw [e0]
  show wpAny (model X.prog X.w) X.A (subscriptTail e (.Slice lo hi none p2) u (.ref s3.heap.objs.size)) _ X.xe { s3 with heap := s3.heap.push { cls := .type "slice", data := .fields #[vl, vu, .none] } }
  exact tail_any (ops := [.ref s3.heap.objs.size, u]) ht hT (thn hg fun _ _ z => (vpr_of z).left ((e1.trans e2).trans e3)) (by with_unfolding_all rfl)
def cutD (xs : List D) (lo hi : Option Int) : List D := (xs.drop (HT.sIx xs.length 0 lo)).take (HT.sIx xs.length xs.length hi - HT.sIx xs.length 0 lo)
theorem VRs.cut {K : PySem.W.Frag} {m : List Addr} {H : Hp} {vs : List V} {ds : List D} (r : VRs K m H vs ds) (lo hi : Option Int) : VRs K m H (cutV vs lo hi) (cutD ds lo hi) := by
  unfold cutV cutD
  rw [r.length]
  exact (r.drop _).take _
def gSlice (S : Sto) (x : D) (lo hi : Option Int) : Option D := match vw S x with
  | .lst xs => some (.lst (cutD xs lo hi))
  | .tup xs => some (.tup (cutD xs lo hi))
  | .ftup xs => if HT.sIx xs.length 0 lo = 0 ∧ HT.sIx xs.length xs.length hi = xs.length then some (.ftup xs) else some (.tup (cutD xs lo hi))
  | .str z => if z.length ≤ sizeLine then some (.str (cutS z lo hi)) else none
  | _ => none
theorem sIx_whole (n : Nat) {lo hi : Option Int} {ds : List D} (h : HT.sIx ds.length 0 lo = 0 ∧ HT.sIx ds.length ds.length hi = ds.length) : cutD ds lo hi = ds := by
  unfold cutD
  rw [h.1, h.2]
  simp
theorem sll_any : SlL X gSlice := ⟨fun pins s σ H m S x dx d v vl vu lo hi sl I q rx ev hs pl pu e => by
  unfold gSlice at e
  split at e
  · rename_i xs e1
    cases e
    obtain ⟨a, vs, rfl, h1, r⟩ := vw_lst q rx e1
    obtain ⟨T, id, h2, h3, h4⟩ := sl_list pins s σ H _ v vl vu lo hi sl (QV X.K m H S (.lst (cutD xs lo hi))) I ev hs pl pu ⟨a, vs, rfl, h1, fun p hp => qv_new q hp (vr_newLst q hp (r.cut lo hi))⟩
    exact ⟨T, id, h2, h3, thn h4 fun _ _ z => vp_of z⟩
  · rename_i xs e1
    cases e
    obtain ⟨a, vs, rfl, h1, r⟩ := vw_tup rx e1
    obtain ⟨T, id, h2, h3, h4⟩ := sl_tupA pins s σ H _ v vl vu lo hi sl (QV X.K m H S (.tup (cutD xs lo hi))) I ev hs pl pu
      ⟨a, vs, rfl, SqT.of h1, fun z => qv_same q (by rw [r.length] at z; rw [sIx_whole 0 z]; exact .tup h1 r), fun _ p hp => qv_new q hp (vr_newTup q hp (r.cut lo hi))⟩
    exact ⟨T, id, h2, h3, thn h4 fun _ _ z => vp_of z⟩
  · rename_i xs e1
    obtain ⟨a, vs, o, rfl, hd, h1, r⟩ := vw_ftup rx e1
    split at e
    · rename_i hw
      cases e
      obtain ⟨T, id, h2, h3, h4⟩ := sl_tupA pins s σ H _ v vl vu lo hi sl (QV X.K m H S (.ftup xs)) I ev hs pl pu
        ⟨a, vs, rfl, SqT.rd (.inr ⟨o, h1⟩), fun z => qv_same q (.ftup hd h1 r), fun z p hp => absurd (show _ ∧ _ by rw [r.length]; exact hw) z⟩
      exact ⟨T, id, h2, h3, thn h4 fun _ _ z => vp_of z⟩
    · rename_i hw
      cases e
      obtain ⟨T, id, h2, h3, h4⟩ := sl_tupA pins s σ H _ v vl vu lo hi sl (QV X.K m H S (.tup (cutD xs lo hi))) I ev hs pl pu
        ⟨a, vs, rfl, SqT.rd (.inr ⟨o, h1⟩), fun z => absurd (by rw [r.length] at z; exact z) hw, fun _ p hp => qv_new q hp (vr_newTup q hp (r.cut lo hi))⟩
      exact ⟨T, id, h2, h3, thn h4 fun _ _ z => vp_of z⟩
  · rename_i z e1
    split at e
    · cases e
      have e2 := vw_str rx e1
      subst e2
      obtain ⟨T, id, h2, h3, h4⟩ := sl_str pins s σ H _ v vl vu lo hi sl (QV X.K m H S (.str (cutS z lo hi))) I ev hs pl pu ⟨z, rfl, ‹_›, qv_same q (.str _)⟩
      exact ⟨T, id, h2, h3, thn h4 fun _ _ z => vp_of z⟩
    · cases e
  · cases e⟩

/-! ### attributes of objects -/
theorem VFs.look {K : PySem.W.Frag} {m : List Addr} {H : Hp} {fs : List (Str × V)} {gs : List (Str × D)} {f : Str} {d : D} : VFs K m H fs gs → gs.lookup f = some d → ∃ v, fs.lookup f = some v ∧ VR K m H v d
  | .nil, e => by simp at e
  | @VFs.cons _ _ _ g v d' vs ds h r, e => by
    by_cases q : f = g
    · subst q
      simp [List.lookup] at e
      subst e
      exact ⟨v, by simp [List.lookup], h⟩
    · have hb : (f == g) = false := beq_eq_false_iff_ne.mpr q
      simp only [List.lookup, hb] at e ⊢
      exact VFs.look r e
theorem VFs.lookN {K : PySem.W.Frag} {m : List Addr} {H : Hp} {fs : List (Str × V)} {gs : List (Str × D)} {f : Str} : VFs K m H fs gs → gs.lookup f = none → fs.lookup f = none
  | .nil, e => rfl
  | @VFs.cons _ _ _ g v d' vs ds h r, e => by
    by_cases q : f = g
    · subst q
      simp [List.lookup] at e
    · have hb : (f == g) = false := beq_eq_false_iff_ne.mpr q
      simp only [List.lookup, hb] at e ⊢
      exact VFs.lookN r e
def gFld (C : Addr) (f : Str) (S : Sto) (d : D) : Option D := match vw S d with
  | .obj C' fs => if C' = C then fs.lookup f else none
  | _ => none
def lFld (C : Addr) (f : Str) (l : LE) : LE := fun ρ S => (l ρ S).bind fun d S1 => lift1 (gFld C f S1 d) S1
theorem pel_fld {C : Addr} {f : Str} (cl : Cls X.K C) (na : NoAttr X.K C f) (he : PEL X e l) (hb : attributeBase e f X.env (eval e X.env) = eval e X.env := by rfl) : PEL X (.Attribute e f pos) (lFld C f l) := by
  refine ⟨fun pins s σ H m ρ S I x r hp => ?_⟩
  refine attr_of hb (run_seq he I x r hp fun d S1 q1 v u s1 H1 m1 I1 rv e1 x1 w1 r1 hp1 => ?_)
  obtain ⟨d', q2⟩ := lift_ok hp1
  have e0 : lFld C f l ρ S = .ok d' S1 := by unfold lFld; rw [q1, bind_ok, q2]; rfl
  rw [e0]
  unfold gFld at q2
  split at q2
  · rename_i C' gs q3
    split at q2
    · rename_i q4
      subst q4
      obtain ⟨a, dx, fs, rfl, h1, r2⟩ := vw_obj x1 w1 q3
      obtain ⟨w, h2, h3⟩ := r2.look q2
      obtain rfl : u = Value.ref a := rv
      exact getattr_ok I1 h1 cl na h2 fun u' s2 I2 ru => (vpr_of ⟨w, H1, m1, I2, ru, Ext.refl, x1, h3⟩).left e1
    · cases q2
  · cases q2

/-! ### built-in functions and types, called by values -/
abbrev GC := Sto → List D → Option D
structure CallL (X : Cx) (f : Value) (g : GC) : Prop where
  run : ∀ (pins : List (Addr × Obj)) (s : Shared) (σ : L2.St) (H : Hp) (m : List Addr) (S : Sto) (xs : List V) (ds : List D) (d : D) (us : List Value), Inv X pins σ H s → SR X.K m H S → VRs X.K m H xs ds → Vals xs us → g S ds = some d →
    wpAny (model X.prog X.w) X.A (call f us) (VP X pins σ m H d S) X.xe s
theorem CallL.of {f : Value} {r : List V → Hp → VK → Prop} {g : GC} (h : CallR X f r) (hg : ∀ (H : Hp) (m : List Addr) (S : Sto) (xs : List V) (ds : List D) (d : D), SR X.K m H S → VRs X.K m H xs ds → g S ds = some d → r xs H (QV X.K m H S d)) : CallL X f g :=
  ⟨fun pins s σ H m S xs ds d us I q r rv e => thn (h pins s σ H xs us _ I rv (hg H m S xs ds d q r e)) fun _ _ z => vp_of z⟩
theorem CallL.or {f : Value} {g g' : GC} (h : CallL X f g) (h' : CallL X f g') : CallL X f (fun S ds => (g S ds).or (g' S ds)) :=
  ⟨fun pins s σ H m S xs ds d us I q r rv e => by
    cases z : g S ds with
    | some d' =>
      rw [z] at e
      cases e
      exact h.run pins s σ H m S xs ds _ us I q r rv z
    | none =>
      rw [z] at e
      exact h'.run pins s σ H m S xs ds _ us I q r rv e⟩
def lCallB (g : GC) (t : LA) : LE := fun ρ S => (t ρ S).bind fun ds S1 => lift1 (g S1 ds) S1
theorem pel_callB {id : String} {g : GC} (hc : CallL X (.builtin id) g) (hg : Gl X x) (hm : X.mg x = none) (hv : bootBuiltins x = some (.builtin id)) (ha : PAL X (e :: es) t) (hn : x ≠ "__name__" := by decide) (hdb : (x == ("__debug__" : Str)) = false := by decide)
    (he : starEach (e :: es) X.env = (false, eval e X.env) :: starEach es X.env := by rfl) (hpl : (backTo pos (starEach es X.env)).any (·.1) = false := by rfl) : PEL X (.Call (.Name x p) (e :: es) [] pos) (lCallB g t) := by
  refine ⟨fun pins s σ H m ρ S I x r hp => ?_⟩
  refine wpAny_Call_Name_kw (ld_blt I hg hm hv ?_ hn hdb)
  refine PyProof.Rows.callWith_builtin1 (run_seqA ha I x r hp fun ds S1 q1 vs us s1 H1 m1 I1 rv e1 x1 w1 r1 hp1 => ?_) he hpl
  obtain ⟨d', q2⟩ := lift_ok hp1
  have e0 : lCallB g t ρ S = .ok d' S1 := by unfold lCallB; rw [q1, bind_ok, q2]; rfl
  rw [e0]
  exact thn (hc.run pins s1 σ H1 m1 S1 vs ds d' us I1 x1 w1 rv q2) fun _ _ z => (vpr_of z).left e1
theorem pel_callTy {T : String} {g : GC} (hc : CallL X (.type T) g) (hg : Gl X x) (hm : X.mg x = none) (hv : bootBuiltins x = some (.type T)) (ha : PAL X (e :: es) t) (hn : x ≠ "__name__" := by decide) (hdb : (x == ("__debug__" : Str)) = false := by decide)
    (he : starEach (e :: es) X.env = (false, eval e X.env) :: starEach es X.env := by rfl) (hpl : (backTo pos (starEach es X.env)).any (·.1) = false := by rfl) : PEL X (.Call (.Name x p) (e :: es) [] pos) (lCallB g t) := by
  refine ⟨fun pins s σ H m ρ S I x r hp => ?_⟩
  refine wpAny_Call_Name_kw (ld_blt I hg hm hv ?_ hn hdb)
  refine PyProof.Rows.callWith_type1 (run_seqA ha I x r hp fun ds S1 q1 vs us s1 H1 m1 I1 rv e1 x1 w1 r1 hp1 => ?_) he hpl
  obtain ⟨d', q2⟩ := lift_ok hp1
  have e0 : lCallB g t ρ S = .ok d' S1 := by unfold lCallB; rw [q1, bind_ok, q2]; rfl
  rw [e0]
  exact thn (hc.run pins s1 σ H1 m1 S1 vs ds d' us I1 x1 w1 rv q2) fun _ _ z => (vpr_of z).left e1
end
end MP

namespace MP
open PySem PySem.Spec PyProof.Rows L2

/-! ### room, and no repr under way (L2.Room and L2.FnOk, with the guards) -/
structure Room (k : Nat) (A : Around) : Prop where
  r : L2.Room k A
  g : A.guards = some []
theorem Room.mono {j k : Nat} {A : Around} (r : MP.Room k A) (h : j ≤ k) : MP.Room j A := ⟨r.r.mono h, r.g⟩
theorem Room.deeper {k : Nat} {A : Around} (r : MP.Room (k + 1) A) (env : Env) : MP.Room k (A.deeper env) := ⟨r.r.deeper env, r.g⟩
theorem Room.in1 {k : Nat} {A : Around} (r : MP.Room (k + 1) A) : MP.Room k A.in1 := ⟨r.r.in1, r.g⟩
theorem Room.make {k : Nat} {A : Around} (r : MP.Room (k + 1) A) (C : Addr) (us : List Value) (kw : List (Str × Value)) : MP.Room k (A.under (.builtin "type.__call__" ⟨.ref C :: us, kw⟩)) :=
  ⟨r.r.make C us kw, by
    have h := r.g
    first
      | exact h
      | (simp [Around.under, Code.guards, pushGuards, Code.isGuard, guardIds, h])⟩
theorem Room.depth {k : Nat} {A : Around} (r : MP.Room k A) : A.depth < recursionLimit := r.r.depth
theorem Room.units {k : Nat} {A : Around} (r : MP.Room k A) : A.units + 64 < cLine := r.r.units
theorem Room.units0 {k : Nat} {A : Around} (r : MP.Room k A) : A.units < cLine := r.r.units0
theorem Room.hd {k : Nat} {A : Around} (r : MP.Room k A) : A.handled = none := r.r.hd
structure FnOk (P : Program) (w : World) (K : PySem.W.Frag) (mg : Str → Option Value) (base : Heap) (CX : CXT) (k : Nat) (f : Addr) (fd : FuncData) (ps : List Str) (sp : Sp) : Prop where
  len : ∀ vs H Q E, sp vs H Q E → vs.length = ps.length
  run : ∀ (A : Around) (outer : List Env) (s : Shared) (H : Hp) (args : Args) (us : List Value) (vs : List V) (Q : VK) (E : XK), MP.Room k A → Env0 P w K mg base A outer s H → BindsTo s fd args (ps.zip us) → Vals vs us → sp vs H Q E →
    codeAny (model P w) A (.call (.ref f) args) (CR CX outer P w H s Q E) s
theorem FnOk.imp {P : Program} {w : World} {K : PySem.W.Frag} {mg : Str → Option Value} {base : Heap} {CX : CXT} {k : Nat} {f : Addr} {fd : FuncData} {ps : List Str} {sp sp' : Sp} (F : MP.FnOk P w K mg base CX k f fd ps sp)
    (h : ∀ vs H Q E, sp' vs H Q E → sp vs H Q E) : MP.FnOk P w K mg base CX k f fd ps sp' :=
  ⟨fun vs H Q E q => F.len vs H Q E (h _ _ _ _ q), fun A outer s H args us vs Q E hr he hb hv hs => F.run A outer s H args us vs Q E hr he hb hv (h _ _ _ _ hs)⟩

/-! ### what a def promises, by the store -/
abbrev F := List D → Sto → R D
def spL (K : PySem.W.Frag) (f : F) (n : Nat) : Sp := fun vs H Q E => vs.length = n ∧ ∃ m S ds, SR K m H S ∧ VRs K m H vs ds ∧ f ds S ≠ .bad ∧ (∀ d S', f ds S = .ok d S' → ∀ v H', QV K m H S' d v H' → Q v H') ∧
  ∀ C fs S', f ds S = .exc C fs S' → ∀ cls d H', WL K m H C fs S' cls d H' → E cls d H'
abbrev FnL (P : Program) (w : World) (K : PySem.W.Frag) (mg : Str → Option Value) (base : Heap) (k : Nat) (f : Addr) (fd : FuncData) (ps : List Str) (g : F) : Prop := FnOk P w K mg base (L2.CX P w) k f fd ps (spL K g ps.length)

section
variable {X : Cx} {a b c e o : Expr} {la lb lc l lo : LE} {pos p apos cpos : Pos} {es rest : List Expr} {t : LA} {tc : LT} {x mn : Str} {k : Nat} {f C : Addr} {fd : FuncData} {ps : List Str} {g : F}
theorem run_fnL {pins : List (Addr × Obj)} {σ : L2.St} {H : Hp} {s : Shared} {us ds0 : List Value} {vs dvs : List V} {m : List Addr} {S : Sto} {ds dd : List D} (Fn : FnL X.prog X.w X.K X.mg X.base k f fd ps g) (hr : Room k X.A) (hb : Binds X.K fd ps ds0) (hd : Vals dvs ds0) (hdd : VRs X.K m H dvs dd)
    (I : Inv X pins σ H s) (x : SR X.K m H S) (r : Vals vs us) (rd : VRs X.K m H vs ds) (hl : (vs ++ dvs).length = ps.length) (hp : Hope X σ m H (g (ds ++ dd) S)) :
    wpAny (model X.prog X.w) X.A (call (.ref f) us) (VPr X pins σ m H (g (ds ++ dd) S)) X.xe s := by
  have r2 : Vals (vs ++ dvs) (us ++ ds0) := r.append hd
  have hl2 : (us ++ ds0).length = ps.length := by rw [← r2.length]; exact hl
  have rd2 : VRs X.K m H (vs ++ dvs) (ds ++ dd) := rd.append hdd
  have hsp : spL X.K g ps.length (vs ++ dvs) H (fun v H' => ∃ d S', g (ds ++ dd) S = .ok d S' ∧ QV X.K m H S' d v H') (fun cls d H' => ∃ C fs S', g (ds ++ dd) S = .exc C fs S' ∧ WL X.K m H C fs S' cls d H') :=
    ⟨hl, m, S, ds ++ dd, x, rd2, hp.1, fun d S' q v H' z => ⟨d, S', q, z⟩, fun C fs S' q cls d H' z => ⟨C, fs, S', q, z⟩⟩
  refine wpAny_call (codeAny_mono (Fn.run X.A X.stack s H ⟨us, []⟩ (us ++ ds0) (vs ++ dvs) _ _ hr I.env0 (hb s us I.kIn hl2) r2 hsp) fun r s' hq => ?_)
  cases r with
  | error e =>
    cases q : g (ds ++ dd) S with
    | bad => rw [q] at hp; exact absurd rfl hp.1
    | ok d S' =>
      obtain ⟨_, _, _, _, _, _, _, _, _, _, _, _, C, fs, S', q', _⟩ := hq
      rw [q] at q'; cases q'
    | exc C fs S' =>
      refine hp.2 C fs S' q e s' (XE.of_call I (fun cls d H' w => ?_) hq)
      obtain ⟨C', fs', S'', q', w⟩ := w
      rw [q] at q'; cases q'
      exact ⟨rfl, w⟩
  | ok fl =>
    cases fl with
    | ret u =>
      obtain ⟨v, H', I', rv, d, S', q, m', e, x', w⟩ := I.after hq
      exact ⟨d, S', q, v, H', m', I', rv, e, x', w⟩
    | next => exact False.elim hq
    | brk => exact False.elim hq
    | cont => exact False.elim hq
/-- what a call's values by default are -/
structure Dfl (K : PySem.W.Frag) (dvs : List V) (ds0 : List Value) (dd : List D) : Prop where
  vals : Vals dvs ds0
  rel : ∀ m H, VRs K m H dvs dd
theorem dfl_nil {K : PySem.W.Frag} : Dfl K [] [] [] := ⟨.nil, fun _ _ => .nil⟩
def lCall (n : Nat) (g : F) (dd : List D) (t : LA) : LE := fun ρ S => (t ρ S).bind fun ds S1 => if ds.length + dd.length = n then g (ds ++ dd) S1 else .bad
theorem pel_call {ds0 : List Value} {dvs : List V} {dd : List D} (Fn : FnL X.prog X.w X.K X.mg X.base k f fd ps g) (hr : Room k X.A) (hg : Gl X x) (hm : X.mg x = some (.ref f)) (hk : PySem.W.keepIn X.K (.ref f) = true) (hb : Binds X.K fd ps ds0) (hd : Dfl X.K dvs ds0 dd)
    (ha : PAL X (e :: es) t) (hdb : (x == ("__debug__" : Str)) = false := by decide) (he : starEach (e :: es) X.env = (false, eval e X.env) :: starEach es X.env := by rfl) (hpl : (backTo pos (starEach es X.env)).any (·.1) = false := by rfl) :
    PEL X (.Call (.Name x p) (e :: es) [] pos) (lCall ps.length g dd t) := by
  refine ⟨fun pins s σ H m ρ S I x r hp => ?_⟩
  refine wpAny_Call_Name_kw (ld_glob I hg hm ?_ hdb)
  refine PySem.W.callWith_K (h₀ := X.base) I.ok.mod.kin hk (run_seqA ha I x r hp fun ds S1 q1 vs us s1 H1 m1 I1 rv e1 x1 w1 r1 hp1 => ⟨I1.kIn, ?_⟩) he hpl
  have hl := hope_if hp1
  rw [if_pos hl] at hp1
  have e0 : lCall ps.length g dd t ρ S = g (ds ++ dd) S1 := by unfold lCall; rw [q1, bind_ok, if_pos hl]
  rw [e0]
  exact thn (run_fnL Fn hr hb hd.vals (hd.rel _ _) I1 x1 rv w1 (by rw [List.length_append, w1.length, (hd.rel m1 H1).length]; exact hl) hp1) fun _ _ z => z.left e1
/-- o.m(..): C the object's class -/
def recv (C : Addr) (mn : Str) (S : Sto) (d : D) : Bool := match vw S d with
  | .obj C' fs => decide (C' = C) && (fs.lookup mn).isNone
  | _ => false
def lMeth (C : Addr) (mn : Str) (n : Nat) (g : F) (dd : List D) (lo : LE) (t : LA) : LE := fun ρ S => (lo ρ S).bind fun d S0 => if recv C mn S0 d = true then (t ρ S0).bind fun ds S1 => if (ds.length + dd.length) + 1 = n then g (d :: (ds ++ dd)) S1 else .bad else .bad
theorem recv_at {K : PySem.W.Frag} {m : List Addr} {H : Hp} {S : Sto} {v : V} {d : D} (x : SR K m H S) (r : VR K m H v d) (h : recv C mn S d = true) : ∃ a dx fs, v = .ref a ∧ H a = some (.ins C dx fs) ∧ fs.lookup mn = none := by
  unfold recv at h
  split at h
  · rename_i C' gs q
    rw [Bool.and_eq_true] at h
    have h1 := of_decide_eq_true h.1
    subst h1
    obtain ⟨a, dx, fs, rfl, h2, r2⟩ := vw_obj x r q
    exact ⟨a, dx, fs, rfl, h2, r2.lookN (Option.isNone_iff_eq_none.mp h.2)⟩
  · cases h
theorem pel_meth {pl : Sem Bool} {ds0 : List Value} {dvs : List V} {dd : List D} (c : Cls X.K C) (hm : Meth X.K C mn f) (Fn : FnL X.prog X.w X.K X.mg X.base k f fd ps g) (hr : Room k X.A) (hb : Binds X.K fd ps ds0) (hd : Dfl X.K dvs ds0 dd) (he : PEL X o lo) (ha : PAL X (e :: es) t)
    (hst : starEach (e :: es) X.env = (false, eval e X.env) :: starEach es X.env := by rfl) (hpl : (backTo pos (starEach es X.env)).any (·.1) = false := by rfl)
    (ht : eval (.Call (.Attribute o mn apos) (e :: es) [] pos) X.env = (do
      let ov ← eval o X.env
      standAt apos.atName
      let (f, first) ← holding [ov] (getMethod ov mn pl)
      callWith pos f first (backTo pos (starEach (e :: es) X.env)) (backToKw pos (keywordEach [] X.env))) := by rfl) :
    PEL X (.Call (.Attribute o mn apos) (e :: es) [] pos) (lMeth C mn ps.length g dd lo t) := by
  refine ⟨fun pins s σ H m ρ S I x r hp => ?_⟩
  refine PySem.W.methodCall_KW (pl := pl) (run_seq he I x r hp fun d S0 q0 v u s0 H0 m0 I0 rv0 e0 x0 w0 r0 hp0 => ?_) ht
  have hc := hope_if hp0
  rw [if_pos hc] at hp0
  obtain ⟨a, dx, fs, rfl, ea, hl⟩ := recv_at x0 w0 hc
  obtain rfl : u = Value.ref a := rv0
  refine getmeth_ok I0 ea c hm hl ?_
  refine PySem.W.callWith_K (first := [.ref a]) (h₀ := X.base) I.ok.mod.kin hm.kp (run_seqA ha I0 x0 r0 hp0 fun ds S1 q1 vs us s1 H1 m1 I1 rv1 e1 x1 w1 r1 hp1 => ⟨I1.kIn, ?_⟩) hst hpl
  have hn := hope_if hp1
  rw [if_pos hn] at hp1
  have ez : lMeth C mn ps.length g dd lo t ρ S = g (d :: (ds ++ dd)) S1 := by unfold lMeth; rw [q0, bind_ok, if_pos hc, q1, bind_ok, if_pos hn]
  rw [ez]
  exact thn (run_fnL (us := .ref a :: us) (vs := .ref a :: vs) (ds := d :: ds) Fn hr hb hd.vals (hd.rel _ _) I1 x1 (.cons rfl rv1) (.cons (w0.ext e1 x0.muts) w1)
    (by rw [List.cons_append, List.length_cons, List.length_append, w1.length, (hd.rel m1 H1).length]; exact hn) hp1) fun _ _ z => z.left (e0.trans e1)
theorem pel_meth0 {pl : Sem Bool} {ds0 : List Value} {dvs : List V} {dd : List D} (c : Cls X.K C) (hm : Meth X.K C mn f) (Fn : FnL X.prog X.w X.K X.mg X.base k f fd ps g) (hr : Room k X.A) (hb : Binds X.K fd ps ds0) (hd : Dfl X.K dvs ds0 dd) (he : PEL X o lo)
    (ht : eval (.Call (.Attribute o mn apos) [] [] pos) X.env = (do
      let ov ← eval o X.env
      standAt apos.atName
      let (f, first) ← holding [ov] (getMethod ov mn pl)
      callWith pos f first (backTo pos (starEach [] X.env)) (backToKw pos (keywordEach [] X.env))) := by rfl) :
    PEL X (.Call (.Attribute o mn apos) [] [] pos) (lMeth C mn ps.length g dd lo aNil) := by
  refine ⟨fun pins s σ H m ρ S I x r hp => ?_⟩
  refine PySem.W.methodCall_KW (pl := pl) (run_seq he I x r hp fun d S0 q0 v u s0 H0 m0 I0 rv0 e0 x0 w0 r0 hp0 => ?_) ht
  have hc := hope_if hp0
  rw [if_pos hc] at hp0
  obtain ⟨a, dx, fs, rfl, ea, hl⟩ := recv_at x0 w0 hc
  obtain rfl : u = Value.ref a := rv0
  refine getmeth_ok I0 ea c hm hl ?_
  have hp1 : Hope X σ m0 H0 (if (([] : List D).length + dd.length) + 1 = ps.length then g (d :: ([] ++ dd)) S0 else .bad) := hp0
  have hn := hope_if hp1
  rw [if_pos hn] at hp1
  have ez : lMeth C mn ps.length g dd lo aNil ρ S = g (d :: ([] ++ dd)) S0 := by
    unfold lMeth; rw [q0, bind_ok, if_pos hc]
    show (if (([] : List D).length + dd.length) + 1 = ps.length then g (d :: ([] ++ dd)) S0 else .bad) = _
    rw [if_pos hn]
  rw [ez]
  exact PySem.W.callWith_K0 (first := [.ref a]) I0.kIn hm.kp (thn (run_fnL (us := [.ref a]) (vs := [.ref a]) (ds := [d]) Fn hr hb hd.vals (hd.rel _ _) I0 x0 (.cons rfl .nil) (.cons w0 .nil)
    (by rw [List.length_append, (hd.rel m0 H0).length]; simp at hn ⊢; omega) hp1) fun _ _ z => z.left e0)
end

/-! ### what nobody can reach any more is let go -/
mutual
def below (n : Nat) : D → Bool
  | .ref i => decide (i < n)
  | .tup xs => belows n xs
  | .ftup xs => belows n xs
  | .lst xs => belows n xs
  | .dct _ kvs => belowd n kvs
  | .obj _ fs => belowf n fs
  | .exn _ fs => belowf n fs
  | _ => true
def belows (n : Nat) : List D → Bool
  | [] => true
  | x :: xs => below n x && belows n xs
def belowd (n : Nat) : List (D × D) → Bool
  | [] => true
  | (_, x) :: xs => below n x && belowd n xs
def belowf (n : Nat) : List (Str × D) → Bool
  | [] => true
  | (_, x) :: xs => below n x && belowf n xs
end
def belowo (n : Nat) : O → Bool
  | .lst xs => belows n xs
  | .dct _ kvs => belowd n kvs
  | .ins _ fs => belowf n fs
section
variable {K : PySem.W.Frag} {m : List Addr} {H : Hp}
mutual
theorem VR.bel {v : V} {d : D} : VR K m H v d → below m.length d = true
  | .non => rfl
  | .bl _ => rfl
  | .int _ => rfl
  | .str _ => rfl
  | .tup _ r => r.bel
  | .ftup _ _ r => r.bel
  | .lst _ _ r => r.bel
  | .lstK _ _ _ _ _ _ r => r.bel
  | .dct _ _ r => r.bel
  | .dctT _ _ r => r.bel
  | .obj _ _ r => r.bel
  | .exn0 _ _ => rfl
  | .exnD _ _ _ _ r => r.bel
  | .ref h => by
    simp only [MP.below]
    exact decide_eq_true (List.getElem?_eq_some_iff.mp h).1
theorem VRs.bel {v : List V} {d : List D} : VRs K m H v d → belows m.length d = true
  | .nil => rfl
  | .cons h r => by simp only [MP.belows, h.bel, r.bel, Bool.and_self]
theorem VFs.bel {v : List (Str × V)} {d : List (Str × D)} : VFs K m H v d → belowf m.length d = true
  | .nil => rfl
  | .cons h r => by simp only [MP.belowf, h.bel, r.bel, Bool.and_self]
theorem VDk.bel {v : List (Key × V)} {d : List (D × D)} : VDk K m H v d → belowd m.length d = true
  | .nil => rfl
  | .cons h r => by simp only [MP.belowd, h.bel, r.bel, Bool.and_self]
theorem VDt.bel {v : List (List Key × V)} {d : List (D × D)} : VDt K m H v d → belowd m.length d = true
  | .nil => rfl
  | .cons h r => by simp only [MP.belowd, h.bel, r.bel, Bool.and_self]
end
variable {l : List Addr}
theorem nin_left {a : Addr} (h : a ∉ m ++ l) : a ∉ m := fun z => h (List.mem_append_left _ z)
mutual
theorem VR.down {v : V} {d : D} : VR K (m ++ l) H v d → MP.below m.length d = true → VR K m H v d
  | .non, _ => .non
  | .bl b, _ => .bl b
  | .int i, _ => .int i
  | .str s, _ => .str s
  | .tup h r, q => .tup h (r.down (by simpa only [MP.below] using q))
  | .ftup hd h r, q => .ftup hd h (r.down (by simpa only [MP.below] using q))
  | .lst n h r, q => .lst (nin_left n) h (r.down (by simpa only [MP.below] using q))
  | .lstK hk h1 h2 h3 h4 h5 r, q => .lstK hk h1 h2 h3 h4 h5 (r.down (by simpa only [MP.below] using q))
  | .dct n h r, q => .dct (nin_left n) h (r.down (by simpa only [MP.below] using q))
  | .dctT n h r, q => .dctT (nin_left n) h (r.down (by simpa only [MP.below] using q))
  | .obj n h r, q => .obj (nin_left n) h (r.down (by simpa only [MP.below] using q))
  | .exn0 n h, q => .exn0 (nin_left n) h
  | .exnD n nd h hd r, q => .exnD (nin_left n) (nin_left nd) h hd (r.down (by simpa only [MP.below] using q))
  | .ref h, q => .ref (by
    simp only [MP.below] at q
    rw [List.getElem?_append_left (of_decide_eq_true q)] at h
    exact h)
theorem VRs.down {v : List V} {d : List D} : VRs K (m ++ l) H v d → MP.belows m.length d = true → VRs K m H v d
  | .nil, _ => .nil
  | .cons h r, q => by
    simp only [MP.belows, Bool.and_eq_true] at q
    exact .cons (h.down q.1) (r.down q.2)
theorem VFs.down {v : List (Str × V)} {d : List (Str × D)} : VFs K (m ++ l) H v d → MP.belowf m.length d = true → VFs K m H v d
  | .nil, _ => .nil
  | .cons h r, q => by
    simp only [MP.belowf, Bool.and_eq_true] at q
    exact .cons (h.down q.1) (r.down q.2)
theorem VDk.down {v : List (Key × V)} {d : List (D × D)} : VDk K (m ++ l) H v d → MP.belowd m.length d = true → VDk K m H v d
  | .nil, _ => .nil
  | .cons h r, q => by
    simp only [MP.belowd, Bool.and_eq_true] at q
    exact .cons (h.down q.1) (r.down q.2)
theorem VDt.down {v : List (List Key × V)} {d : List (D × D)} : VDt K (m ++ l) H v d → MP.belowd m.length d = true → VDt K m H v d
  | .nil, _ => .nil
  | .cons h r, q => by
    simp only [MP.belowd, Bool.and_eq_true] at q
    exact .cons (h.down q.1) (r.down q.2)
end
/-- a place of the store from n on, as what stands there -/
def fz0 (S : Sto) (n : Nat) (d : D) : D := match d with
  | .ref i => if i < n then .ref i else vw S (.ref i)
  | d => d
def fz (S : Sto) (n : Nat) (d : D) : D := match fz0 S n d with
  | .obj C fs => .obj C (fs.map fun q => (q.1, fz0 S n q.2))
  | d => d
theorem nodup_get {xs : List Addr} (h : xs.Nodup) {i j : Nat} {a : Addr} (h1 : xs[i]? = some a) (h2 : xs[j]? = some a) : i = j := by
  obtain ⟨p1, e1⟩ := List.getElem?_eq_some_iff.mp h1
  obtain ⟨p2, e2⟩ := List.getElem?_eq_some_iff.mp h2
  exact (List.getElem_inj h).mp (e1.trans e2.symm)
theorem VR.fz0 {S : Sto} {v : V} {d : D} (x : SR K (m ++ l) H S) (r : VR K (m ++ l) H v d) : ∃ v', v' = v ∧ (VR K (m ++ l) H v (MP.fz0 S m.length d) ∨ (∃ a, v = .ref a ∧ a ∉ m ∧ ∃ ob, OR K (m ++ l) H a ob ∧ MP.fz0 S m.length d = (match ob with
  | .lst xs => .lst xs
  | .dct t kvs => .dct t kvs
  | .ins C fs => .obj C fs))) := by
  refine ⟨v, rfl, ?_⟩
  cases r with
  | @ref i a h =>
    unfold MP.fz0
    by_cases hi : i < m.length
    · dsimp only
      rw [if_pos hi]
      exact .inl (.ref h)
    · dsimp only
      rw [if_neg hi]
      cases q : S[i]? with
      | none =>
        have := (List.getElem?_eq_some_iff.mp h).1
        rw [x.len] at this
        rw [List.getElem?_eq_none_iff] at q
        omega
      | some ob =>
        refine .inr ⟨a, rfl, fun z => ?_, ob, x.at_ i a ob h q, by dsimp only [vw]; rw [q]; cases ob <;> rfl⟩
        obtain ⟨j, hj⟩ := List.mem_iff_getElem?.mp z
        have hj' := (List.getElem?_eq_some_iff.mp hj).1
        have h2 : (m ++ l)[j]? = some a := by rw [List.getElem?_append_left hj']; exact hj
        have := nodup_get x.nd h2 h
        omega
  | non => exact .inl .non
  | bl b => exact .inl (.bl b)
  | int b => exact .inl (.int b)
  | str b => exact .inl (.str b)
  | tup h r => exact .inl (.tup h r)
  | ftup hd h r => exact .inl (.ftup hd h r)
  | lst n h r => exact .inl (.lst n h r)
  | lstK hk h1 h2 h3 h4 h5 r => exact .inl (.lstK hk h1 h2 h3 h4 h5 r)
  | dct n h r => exact .inl (.dct n h r)
  | dctT n h r => exact .inl (.dctT n h r)
  | obj n h r => exact .inl (.obj n h r)
  | exn0 n h => exact .inl (.exn0 n h)
  | exnD n nd h hd r => exact .inl (.exnD n nd h hd r)
end
end MP

namespace MP
open PySem PySem.Spec PyProof.Rows L2

section
variable {K : PySem.W.Frag} {m l : List Addr} {H H' : Hp} {S S' : Sto}
theorem OR.bel {a : Addr} {o : O} (h : OR K m H a o) : belowo m.length o = true := by
  cases h with
  | lst _ r => exact r.bel
  | dct _ r => exact r.bel
  | dctT _ r => exact r.bel
  | ins _ r => exact r.bel
theorem OR.down {a : Addr} {o : O} (h : OR K (m ++ l) H a o) (b : belowo m.length o = true) : OR K m H a o := by
  cases h with
  | lst h r => exact .lst h (r.down b)
  | dct h r => exact .dct h (r.down b)
  | dctT h r => exact .dctT h (r.down b)
  | ins h r => exact .ins h (r.down b)
def snap : O → D
  | .lst xs => .lst xs
  | .dct t kvs => .dct t kvs
  | .ins C fs => .obj C fs
theorem VR.fz0_down {v : V} {d : D} (x : SR K (m ++ l) H S) (r : VR K (m ++ l) H v d) (b : MP.below m.length (MP.fz0 S m.length d) = true) : VR K m H v (MP.fz0 S m.length d) := by
  obtain ⟨_, rfl, q⟩ := VR.fz0 x r
  rcases q with q | ⟨a, rfl, na, ob, q, e⟩
  · exact q.down b
  · rw [e] at b ⊢
    cases q with
    | lst h r => exact .lst na (.inl h) (r.down (by simpa only [MP.below] using b))
    | dct h r => exact .dct na h (r.down (by simpa only [MP.below] using b))
    | dctT h r => exact .dctT na h (r.down (by simpa only [MP.below] using b))
    | ins h r => exact .obj na h (r.down (by simpa only [MP.below] using b))
theorem VFs.fz0_down (x : SR K (m ++ l) H S) : ∀ {vs : List (Str × V)} {ds : List (Str × D)}, VFs K (m ++ l) H vs ds → belowf m.length (ds.map fun q => (q.1, MP.fz0 S m.length q.2)) = true → VFs K m H vs (ds.map fun q => (q.1, MP.fz0 S m.length q.2))
  | _, _, .nil, _ => .nil
  | _, _, .cons h r, q => by
    simp only [List.map_cons, belowf, Bool.and_eq_true] at q
    exact .cons (h.fz0_down x q.1) (VFs.fz0_down x r q.2)
theorem VR.fz_down {v : V} {d : D} (x : SR K (m ++ l) H S) (r : VR K (m ++ l) H v d) (b : MP.below m.length (fz S m.length d) = true) : VR K m H v (fz S m.length d) := by
  unfold fz at b ⊢
  split at b
  · rename_i C fs e
    obtain ⟨_, rfl, q⟩ := VR.fz0 x r
    simp only [MP.below] at b
    rcases q with q | ⟨a, rfl, na, ob, q, e2⟩
    · rw [e] at q
      cases q with
      | obj n h r => exact .obj (nin_left n) h (VFs.fz0_down x r b)
    · rw [e2] at e
      cases q with
      | ins h r => cases e; exact .obj na h (VFs.fz0_down x r b)
      | lst _ _ => cases e
      | dct _ _ => cases e
      | dctT _ _ => cases e
  · exact r.fz0_down x b
/-- a weaker result: less is told, or what nobody reaches any more is let go -/
inductive RLe (S : Sto) : R D → R D → Prop where
  | bad (r : R D) : RLe S .bad r
  | refl (r : R D) : RLe S r r
  | gc (d d' : D) (S' : Sto) (h : S'.take S.length = S) (e : d' = fz S' S.length d) (b : below S.length d' = true) : RLe S (.ok d' S) (.ok d S')
  | gcx (C : Addr) (fs : List (Str × D)) (S' : Sto) (h : S'.take S.length = S) (b : belowf S.length fs = true) : RLe S (.exc C fs S) (.exc C fs S')
theorem sr_gc {m' : List Addr} (x : SR K m H S) (e : Ext m H m' H') (x' : SR K m' H' S') (h : S'.take S.length = S) : SR K m H' S ∧ Ext m H m H' := by
  obtain ⟨l, el⟩ := e.pre
  subst el
  refine ⟨⟨x.nd, x.len, fun i a o h1 h2 => ?_⟩, ⟨[], by simp⟩, fun a h => .inl h, e.keep⟩
  have hi := (List.getElem?_eq_some_iff.mp h1).1
  have hs := (List.getElem?_eq_some_iff.mp h2).1
  refine (x'.at_ i a o (by rw [List.getElem?_append_left hi]; exact h1) ?_).down (x.at_ i a o h1 h2).bel
  rw [← h, List.getElem?_take] at h2
  rw [if_pos hs] at h2
  exact h2
theorem qv_gc {d : D} {v : V} (x : SR K m H S) (q : QV K m H S' d v H') (h : S'.take S.length = S) (b : below S.length (fz S' S.length d) = true) : QV K m H S (fz S' S.length d) v H' := by
  obtain ⟨m', e, x', w⟩ := q
  obtain ⟨y1, y2⟩ := sr_gc x e x' h
  obtain ⟨l, el⟩ := e.pre
  subst el
  rw [← x.len] at b ⊢
  exact ⟨m, y2, y1, w.fz_down x' b⟩
theorem wl_gc {C : Addr} {fs : List (Str × D)} {cls : Value} {dd : Option Addr} (x : SR K m H S) (q : WL K m H C fs S' cls dd H') (h : S'.take S.length = S) (b : belowf S.length fs = true) : WL K m H C fs S cls dd H' := by
  obtain ⟨h1, m', h2, e, x'⟩ := q
  obtain ⟨y1, y2⟩ := sr_gc x e x' h
  obtain ⟨l, el⟩ := e.pre
  subst el
  rw [← x.len] at b
  refine ⟨h1, m, ?_, y2, y1⟩
  rcases h2 with ⟨a, vs, h2, h3, w⟩ | h2
  · exact .inl ⟨a, vs, h2, h3, w.down b⟩
  · exact .inr h2
end
theorem FnL.le {P : Program} {w : World} {K : PySem.W.Frag} {mg : Str → Option Value} {base : Heap} {k : Nat} {f : Addr} {fd : FuncData} {ps : List Str} {g g' : F} (h : FnL P w K mg base k f fd ps g) (hle : ∀ ds S, ds.length = ps.length → RLe S (g' ds S) (g ds S)) : FnL P w K mg base k f fd ps g' := by
  refine FnOk.imp h fun vs H Q E ⟨hl, m, S, ds, x, r, nb, q1, q2⟩ => ⟨hl, m, S, ds, x, r, ?_⟩
  have z := hle ds S (by rw [← r.length]; exact hl)
  generalize hA : g' ds S = A at z nb q1 q2
  generalize hB : g ds S = B at z
  cases z with
  | bad r => exact absurd rfl nb
  | refl r => exact ⟨nb, q1, q2⟩
  | gc d d' S' h e b =>
    subst e
    refine ⟨fun z => (nomatch z), fun d1 S1 e v H' qv => ?_, fun C fs S1 e => (nomatch e)⟩
    cases e
    exact q1 _ _ rfl v H' (qv_gc x qv h b)
  | gcx C fs S' h b =>
    refine ⟨fun z => (nomatch z), fun d1 S1 e => (nomatch e), fun C1 fs1 S1 e cls dd H' wl => ?_⟩
    cases e
    exact q2 _ _ _ rfl cls dd H' (wl_gc x wl h b)

/-! ### a new object -/
section
variable {X : Cx} {e : Expr} {pos p : Pos} {es : List Expr} {t : LA} {x : Str} {k : Nat} {f C : Addr} {fd : FuncData} {ps : List Str} {g : F}
/-- what comes of C(..) by its __init__ -/
def mkF (C : Addr) (g : F) : F := fun ds S => (g (.ref S.length :: ds) (S ++ [.ins C []])).bind fun d S1 => match d with
  | .non => .ok (.ref S.length) S1
  | _ => .bad
theorem run_makeL {pins : List (Addr × Obj)} {σ : L2.St} {H : Hp} {s : Shared} {us ds0 : List Value} {vs dvs : List V} {m : List Addr} {S : Sto} {ds dd : List D} {gn : F} (M : Mk X.K C f) (Fn : FnL X.prog X.w X.K X.mg X.base k f fd ps g) (hr : Room (k + 1) X.A) (hb : Binds X.K fd ps ds0) (hd : Vals dvs ds0) (hdd : VRs X.K m H dvs dd)
    (I : Inv X pins σ H s) (x : SR X.K m H S) (r : Vals vs us) (rd : VRs X.K m H vs ds) (hl : (vs ++ dvs).length + 1 = ps.length) (hg : RLe S (gn (ds ++ dd) S) (mkF C g (ds ++ dd) S)) (hp : Hope X σ m H (gn (ds ++ dd) S)) :
    wpAny (model X.prog X.w) X.A (call (.ref C) us) (VPr X pins σ m H (gn (ds ++ dd) S)) X.xe s := by
  -- the instance stands at pa, its dict at pd
  obtain ⟨pd, hpd⟩ : ∃ a, a = s.heap.objs.size := ⟨_, rfl⟩
  obtain ⟨pa, hpa⟩ : ∃ a, a = s.heap.objs.size + 1 := ⟨_, rfl⟩
  have n1 : H pa = none := hpa ▸ I.hok.fresh (Nat.le_succ _)
  have n2 : H pd = none := hpd ▸ I.hok.fresh (Nat.le_refl _)
  have ne : pa ≠ pd := by omega
  have I2 := Inv.made (C := C) I
  rw [← hpa, ← hpd] at I2
  have r2 : Vals (V.ref pa :: (vs ++ dvs)) (Value.ref pa :: (us ++ ds0)) := .cons rfl (r.append hd)
  have n1' : (upd H pd (.own pa)) pa = none := by rw [upd_ne ne]; exact n1
  have x1 : SR X.K m (upd H pd (.own pa)) S := x.fresh n2
  have E1 : Ext m H m (upd H pd (.own pa)) := Ext.fresh n2
  obtain ⟨E2, x2⟩ := x1.snoc (o := .ins C pd []) (ob := .ins C []) n1' fun m' H' _ q => .ins q .nil
  have E3 := E1.trans E2
  have rd2 : VRs X.K (m ++ [pa]) (upd (upd H pd (.own pa)) pa (.ins C pd [])) (V.ref pa :: (vs ++ dvs)) (D.ref S.length :: (ds ++ dd)) := .cons (.ref (by rw [← x.len]; simp)) ((rd.append hdd).ext E3 x.muts)
  have nb : mkF C g (ds ++ dd) S ≠ .bad := fun z => by
    rw [z] at hg
    generalize gn (ds ++ dd) S = A at hg hp
    cases hg with
    | bad => exact hp.1 rfl
    | refl => exact hp.1 rfl
  have hsp : spL X.K g ps.length (V.ref pa :: (vs ++ dvs)) (upd (upd H pd (.own pa)) pa (.ins C pd [])) (fun v H' => ∃ d S', g (.ref S.length :: (ds ++ dd)) (S ++ [.ins C []]) = .ok d S' ∧ QV X.K (m ++ [pa]) (upd (upd H pd (.own pa)) pa (.ins C pd [])) S' d v H')
      (fun cls d H' => ∃ C' fs S', g (.ref S.length :: (ds ++ dd)) (S ++ [.ins C []]) = .exc C' fs S' ∧ WL X.K (m ++ [pa]) (upd (upd H pd (.own pa)) pa (.ins C pd [])) C' fs S' cls d H') :=
    ⟨by rw [List.length_cons]; exact hl, _, _, _, x2, rd2, fun z => nb (by unfold mkF; rw [z]; rfl), fun d S' q v H' z => ⟨d, S', q, z⟩, fun C' fs S' q cls d H' z => ⟨C', fs, S', q, z⟩⟩
  have hl2 : (Value.ref pa :: us ++ ds0).length = ps.length := by rw [List.cons_append, ← r2.length, List.length_cons]; exact hl
  refine wpAny_call (make_map (f := f) I.kIn M.makes M.init (beq_iff_eq.mp M.fn) ?_)
  rw [← hpa, ← hpd]
  refine codeAny_mono (Fn.run _ X.stack _ _ ⟨Value.ref pa :: us, []⟩ (Value.ref pa :: (us ++ ds0)) _ _ _ (hr.make C us []) (I2.env0.make C us []) (hb _ (Value.ref pa :: us) I2.kIn hl2) r2 hsp) fun r s' hq => ?_
  cases r with
  | error e =>
    obtain ⟨C', fs, S', q, w0⟩ : ∃ C' fs S', g (.ref S.length :: (ds ++ dd)) (S ++ [.ins C []]) = .exc C' fs S' ∧ XE X (fun cls d σ' H' => σ' = σ ∧ WL X.K m H C' fs S' cls d H') e s' := by
      have hx := XE.of_call (W := fun cls d σ' H' => σ' = σ ∧ ∃ C' fs S', g (.ref S.length :: (ds ++ dd)) (S ++ [.ins C []]) = .exc C' fs S' ∧ WL X.K m H C' fs S' cls d H') I2 (fun cls d H' w => by
        obtain ⟨C', fs, S', q, w⟩ := w
        exact ⟨rfl, C', fs, S', q, w.ext E3⟩) hq
      obtain ⟨_, _, _, _, _, _, _, _, _, _, _, _, _, _, _, _, _, C', fs, S', q, _⟩ := id hx
      refine ⟨C', fs, S', q, XE.imp hx fun cls d σ' H' w => ?_⟩
      obtain ⟨w1, C2, fs2, S2, q2, w2⟩ := w
      rw [q] at q2
      cases q2
      exact ⟨w1, w2⟩
    have e0 : mkF C g (ds ++ dd) S = .exc C' fs S' := by unfold mkF; rw [q]; rfl
    rw [e0] at hg
    generalize hA : gn (ds ++ dd) S = A at hg hp
    cases hg with
    | bad => exact absurd rfl hp.1
    | refl => exact hp.2 _ _ _ rfl e s' w0
    | gcx _ _ _ h b => exact hp.2 _ _ _ rfl e s' (XE.imp w0 fun cls d σ' H' w => ⟨w.1, wl_gc x w.2 h b⟩)
  | ok fl =>
    cases fl with
    | ret u =>
      obtain ⟨v, H', I3, rv, d, S', q, m', e', x', w'⟩ := I2.after hq
      have hn : d = .non := by
        cases d with
        | non => rfl
        | _ => exact absurd (by unfold mkF; rw [q]; rfl) nb
      subst hn
      cases w'
      obtain rfl : u = Value.none := rv
      have e0 : mkF C g (ds ++ dd) S = .ok (.ref S.length) S' := by unfold mkF; rw [q]; rfl
      have qv : QV X.K m H S' (.ref S.length) (.ref pa) H' := ⟨m', E3.trans e', x', .ref (e'.get (by rw [← x.len]; simp))⟩
      refine ⟨rfl, ?_⟩
      rw [e0] at hg
      generalize hA : gn (ds ++ dd) S = A at hg hp
      cases hg with
      | bad => exact absurd rfl hp.1
      | refl =>
        obtain ⟨m2, z1, z2, z3⟩ := qv
        exact ⟨_, _, rfl, .ref pa, H', m2, I3, rfl, z1, z2, z3⟩
      | gc _ _ _ h e b =>
        subst e
        obtain ⟨m2, z1, z2, z3⟩ := qv_gc x qv h b
        exact ⟨_, _, rfl, .ref pa, H', m2, I3, rfl, z1, z2, z3⟩
    | next => exact False.elim hq
    | brk => exact False.elim hq
    | cont => exact False.elim hq
theorem pel_make {n : Nat} {ds0 : List Value} {dvs : List V} {dd : List D} {gn : F} (M : Mk X.K C f) (Fn : FnL X.prog X.w X.K X.mg X.base k f fd ps g) (hle : ∀ ds S, RLe S (gn ds S) (mkF C g ds S)) (hr : Room (k + 1) X.A) (hg : Gl X x) (hm : X.mg x = some (.ref C)) (hb : Binds X.K fd ps ds0) (hd : Dfl X.K dvs ds0 dd)
    (ha : PAL X (e :: es) t) (hdb : (x == ("__debug__" : Str)) = false := by decide) (he : starEach (e :: es) X.env = (false, eval e X.env) :: starEach es X.env := by rfl) (hpl : (backTo pos (starEach es X.env)).any (·.1) = false := by rfl) (hps : ps.length = n + 1 := by rfl) :
    PEL X (.Call (.Name x p) (e :: es) [] pos) (lCall n gn dd t) := by
  refine ⟨fun pins s σ H m ρ S I x r hp => ?_⟩
  refine wpAny_Call_Name_kw (ld_glob I hg hm ?_ hdb)
  refine PySem.W.callWith_K (h₀ := X.base) I.ok.mod.kin M.kp (run_seqA ha I x r hp fun ds S1 q1 vs us s1 H1 m1 I1 rv e1 x1 w1 r1 hp1 => ⟨I1.kIn, ?_⟩) he hpl
  have hl := hope_if hp1
  rw [if_pos hl] at hp1
  have e0 : lCall n gn dd t ρ S = gn (ds ++ dd) S1 := by unfold lCall; rw [q1, bind_ok, if_pos hl]
  rw [e0]
  exact thn (run_makeL M Fn hr hb hd.vals (hd.rel _ _) I1 x1 rv w1 (by rw [List.length_append, w1.length, (hd.rel m1 H1).length]; omega) (hle _ _) hp1) fun _ _ z => z.left e1
end
end MP

namespace MP
open PySem PySem.Spec PyProof.Rows L2

/-! ### readings of the layer beneath -/
/-- no exception -/
def tL0 (K : PySem.W.Frag) (l : LE) : TE := fun σ H Q => ∃ m ρ S, SR K m H S ∧ ER K m H σ ρ ∧ ∃ d S', l ρ S = .ok d S' ∧ ∀ v H', QV K m H S' d v H' → Q v H'
def tT0 (K : PySem.W.Frag) (l : LT) : TT := fun σ H Q => ∃ m ρ S, SR K m H S ∧ ER K m H σ ρ ∧ ∃ b S', l ρ S = .ok b S' ∧ ∀ H' m', Ext m H m' H' → SR K m' H' S' → Q b H'
theorem PEL.pe {X : Cx} {e : Expr} {l : LE} (h : PEL X e l) : PE X e (tL0 X.K l) := by
  refine ⟨fun pins s σ H Q I ⟨m, ρ, S, x, r, d, S', q, k⟩ => ?_⟩
  have z := h.run pins s σ H m ρ S I x r (by rw [q]; exact Hope.ok)
  rw [q] at z
  refine thn z fun u s' ⟨d', S2, e, v, H', m', I', rv, e', x', w⟩ => ?_
  cases e
  exact ⟨v, H', I', rv, k v H' ⟨m', e', x', w⟩⟩
theorem PTL.pt {X : Cx} {e : Expr} {l : LT} (h : PTL X e l) : PT X e (tT0 X.K l) := by
  refine ⟨fun pins s σ H Q I ⟨m, ρ, S, x, r, d, S', q, k⟩ => ?_⟩
  have z := h.run pins s σ H m ρ S I x r (by rw [q]; exact Hope.ok)
  rw [q] at z
  refine thn z fun u s' ⟨S2, H', m', e, I', e', x'⟩ => ?_
  cases e
  exact ⟨H', I', k H' m' e' x'⟩
theorem PEL.of_pe {X : Cx} {e : Expr} {l : LE} {t : TE} (h : PE X e t) (ht : ∀ σ H m ρ S, SR X.K m H S → ER X.K m H σ ρ → Hope X σ m H (l ρ S) → t σ H (fun v H' => ∃ d S', l ρ S = .ok d S' ∧ QV X.K m H S' d v H')) : PEL X e l :=
  ⟨fun pins s σ H m ρ S I x r hp => thn (h.run pins s σ H _ I (ht σ H m ρ S x r hp)) fun u s' ⟨v, H', I', rv, d, S', q, m', e, x', w⟩ => ⟨d, S', q, v, H', m', I', rv, e, x', w⟩⟩

/-! ### statements -/
inductive Fl where
  | nx (ρ : Ev) | rt (d : D) | bk (ρ : Ev) | ct (ρ : Ev) | ex (C : Addr) (fs : List (Str × D)) (ρ : Ev)
abbrev LS := Ev → Sto → R Fl
/-- behind: slots and heap by the store -/
def SV (K : PySem.W.Frag) (m : List Addr) (H : Hp) (ρ' : Ev) (S' : Sto) (σ' : L2.St) (H' : Hp) : Prop := ∃ m', Ext m H m' H' ∧ SR K m' H' S' ∧ ER K m' H' σ' ρ' ∧ ρ'.length = σ'.length
def WS (K : PySem.W.Frag) (m : List Addr) (H : Hp) (C : Addr) (fs : List (Str × D)) (ρ' : Ev) (S' : Sto) : WX := fun cls d σ' H' =>
  cls = .ref C ∧ ∃ (m' : List Addr), XD K m' H' d fs ∧ Ext m H m' H' ∧ SR K m' H' S' ∧ ER K m' H' σ' ρ' ∧ ρ'.length = σ'.length
/-- the reading: what is wanted at each of the ways out -/
structure HS (X : Cx) (D : Ends) (m : List Addr) (H : Hp) (r : R Fl) : Prop where
  ok : ∃ fl S', r = .ok fl S'
  nx : ∀ ρ' S', r = .ok (.nx ρ') S' → ∀ σ' H', SV X.K m H ρ' S' σ' H' → D.nx σ' H'
  rt : ∀ d S', r = .ok (.rt d) S' → ∀ v H', QV X.K m H S' d v H' → D.rt v H'
  bk : ∀ ρ' S', r = .ok (.bk ρ') S' → ∀ σ' H', SV X.K m H ρ' S' σ' H' → D.bk σ' H'
  ct : ∀ ρ' S', r = .ok (.ct ρ') S' → ∀ σ' H', SV X.K m H ρ' S' σ' H' → D.ct σ' H'
  ex : ∀ C fs ρ' S', r = .ok (.ex C fs ρ') S' → ∀ u s', XE X (WS X.K m H C fs ρ' S') u s' → X.xe u s'
def tSL (X : Cx) (l : LS) : TS := fun D σ H => ∃ m ρ S, SR X.K m H S ∧ ER X.K m H σ ρ ∧ ρ.length = σ.length ∧ HS X D m H (l ρ S)
def PSL (X : Cx) (st : Stmt) (l : LS) : Prop := PS X st (tSL X l)
def PSsL (X : Cx) (st : List Stmt) (l : LS) : Prop := PSs X st (tSL X l)
section
variable {X : Cx} {D : Ends} {m m1 : List Addr} {H H1 : Hp} {r : R Fl} {σ : L2.St} {ρ : Ev} {S S1 : Sto}
theorem SV.left {K : PySem.W.Frag} {ρ' : Ev} {S' : Sto} {σ' : L2.St} {H' : Hp} (e : Ext m H m1 H1) (h : SV K m1 H1 ρ' S' σ' H') : SV K m H ρ' S' σ' H' := by
  obtain ⟨m', e', a, b, c⟩ := h
  exact ⟨m', e.trans e', a, b, c⟩
theorem QV.left {K : PySem.W.Frag} {d : MP.D} {S' : Sto} {v : V} {H' : Hp} (e : Ext m H m1 H1) (h : QV K m1 H1 S' d v H') : QV K m H S' d v H' := by
  obtain ⟨m', e', a, b⟩ := h
  exact ⟨m', e.trans e', a, b⟩
theorem WS.left {K : PySem.W.Frag} {C : Addr} {fs : List (Str × MP.D)} {ρ' : Ev} {S' : Sto} {cls : Value} {d : Option Addr} {σ' : L2.St} {H' : Hp} (e : Ext m H m1 H1) (h : WS K m1 H1 C fs ρ' S' cls d σ' H') : WS K m H C fs ρ' S' cls d σ' H' := by
  obtain ⟨h1, m', h2, h4, h5⟩ := h
  exact ⟨h1, m', h2, e.trans h4, h5⟩
theorem HS.ext (h : HS X D m H r) (e : Ext m H m1 H1) : HS X D m1 H1 r :=
  ⟨h.ok, fun ρ' S' q σ' H' z => h.nx ρ' S' q σ' H' (z.left e), fun d S' q v H' z => h.rt d S' q v H' (z.left e), fun ρ' S' q σ' H' z => h.bk ρ' S' q σ' H' (z.left e), fun ρ' S' q σ' H' z => h.ct ρ' S' q σ' H' (z.left e),
    fun C fs ρ' S' q u s' z => h.ex C fs ρ' S' q u s' (XE.imp z fun _ _ _ _ w => w.left e)⟩
/-- an exception of an expression is one of the statement -/
def liftX {α : Type} (ρ : Ev) (r : R α) (f : α → Sto → R Fl) : R Fl := match r with
  | .ok a S => f a S
  | .exc C fs S => .ok (.ex C fs ρ) S
  | .bad => .bad
theorem HS.hope {α : Type} {r : R α} {f : α → Sto → R Fl} (h : HS X D m H (liftX ρ r f)) (er : ER X.K m H σ ρ) (hl : ρ.length = σ.length) (x : SR X.K m H S) : Hope X σ m H r := by
  cases r with
  | bad => obtain ⟨fl, S', q⟩ := h.ok; cases q
  | ok a S => exact Hope.ok
  | exc C fs S' =>
    refine ⟨fun z => (nomatch z), fun C' fs' S'' q u s' z => ?_⟩
    cases q
    refine h.ex C fs ρ S' rfl u s' (XE.imp z fun cls d σ' H' w => ?_)
    obtain ⟨w0, w1, m', w2, w4, w5⟩ := w
    subst w0
    exact ⟨w1, m', w2, w4, w5, er.ext w4 x.muts, hl⟩
/-- an expression in a statement: what is told of it -/
theorem expr_in {e : Expr} {l : LE} (h : PEL X e l) {pins : List (Addr × Obj)} {s : Shared} (I : Inv X pins σ H s) (x : SR X.K m H S) (er : ER X.K m H σ ρ) (hl : ρ.length = σ.length) {f : MP.D → Sto → R Fl} (hs : HS X D m H (liftX ρ (l ρ S) f)) {Q : Value → Shared → Prop}
    (k : ∀ d S1, l ρ S = .ok d S1 → ∀ v u s1 H1 m1, Inv X pins σ H1 s1 → RelV v u → Ext m H m1 H1 → SR X.K m1 H1 S1 → VR X.K m1 H1 v d → ER X.K m1 H1 σ ρ → HS X D m1 H1 (f d S1) → Q u s1) :
    wpAny (model X.prog X.w) X.A (eval e X.env) Q X.xe s := by
  refine thn (h.run pins s σ H m ρ S I x er (hs.hope er hl x)) fun u s1 ⟨d, S1, q, v, H1, m1, I1, rv, e1, x1, w⟩ => ?_
  rw [q] at hs
  exact k d S1 q v u s1 H1 m1 I1 rv e1 x1 w (er.ext e1 x.muts) (HS.ext hs e1)
theorem test_in {e : Expr} {l : LT} (h : PTL X e l) {pins : List (Addr × Obj)} {s : Shared} (I : Inv X pins σ H s) (x : SR X.K m H S) (er : ER X.K m H σ ρ) (hl : ρ.length = σ.length) {f : Bool → Sto → R Fl} (hs : HS X D m H (liftX ρ (l ρ S) f)) {Q : Bool → Shared → Prop}
    (k : ∀ b S1, l ρ S = .ok b S1 → ∀ s1 H1 m1, Inv X pins σ H1 s1 → Ext m H m1 H1 → SR X.K m1 H1 S1 → ER X.K m1 H1 σ ρ → HS X D m1 H1 (f b S1) → Q b s1) :
    wpAny (model X.prog X.w) X.A (isTrue e X.env (eval e X.env)) Q X.xe s := by
  refine thn (h.run pins s σ H m ρ S I x er (hs.hope er hl x)) fun u s1 ⟨S1, H1, m1, q, I1, e1, x1⟩ => ?_
  rw [q] at hs
  exact k u S1 q s1 H1 m1 I1 e1 x1 (er.ext e1 x.muts) (HS.ext hs e1)
theorem sv_same (x : SR X.K m H S) (er : ER X.K m H σ ρ) (hl : ρ.length = σ.length) : SV X.K m H ρ S σ H := ⟨m, Ext.refl, x, er, hl⟩
end

section
variable {X : Cx} {st : Stmt} {rest : List Stmt} {l l' l1 l2 : LS} {e o i c : Expr} {le lo li : LE} {tc : LT} {pos pos' : Pos} {x : Str}
def lNext : LS := fun ρ S => .ok (.nx ρ) S
def Fl.go (l2 : LS) (fl : Fl) (S1 : Sto) : R Fl := match fl with
  | .nx ρ1 => l2 ρ1 S1
  | fl => .ok fl S1
def lSeq (l1 l2 : LS) : LS := fun ρ S => (l1 ρ S).bind (Fl.go l2)
theorem pss_imp {sts : List Stmt} {t u : TS} (h : PSs X sts t) (k : ∀ D σ H, u D σ H → t D σ H) : PSs X sts u := ⟨fun pins s σ H D I q => h.run pins s σ H D I (k D σ H q)⟩
theorem ps_imp {st : Stmt} {t u : TS} (h : PS X st t) (k : ∀ D σ H, u D σ H → t D σ H) : PS X st u := ⟨fun pins s σ H D I q => h.run pins s σ H D I (k D σ H q)⟩
theorem pssl_nil : PSsL X [] lNext := pss_imp pss_nil fun D σ H ⟨m, ρ, S, x, er, hl, h⟩ => h.nx ρ S rfl σ H (sv_same x er hl)
theorem pssl_one (h : PSL X st l) : PSsL X [st] l := pss_one h
theorem bind_nbad {α β : Type} {r : R α} {f : α → Sto → R β} {b : β} {S' : Sto} (h : r.bind f = .ok b S') : ∃ a S, r = .ok a S ∧ f a S = .ok b S' := by
  cases r with
  | ok a S => exact ⟨a, S, rfl, h⟩
  | exc _ _ _ => cases h
  | bad => cases h
theorem HS.seq {D : Ends} {m : List Addr} {H : Hp} {ρ : Ev} {S : Sto} (h : HS X D m H (lSeq l1 l2 ρ S)) : HS X { D with nx := fun σ' H' => tSL X l2 D σ' H' } m H (l1 ρ S) := by
  obtain ⟨fl, S', q⟩ := h.ok
  obtain ⟨a, S1, q1, q2⟩ := bind_nbad q
  have key : lSeq l1 l2 ρ S = Fl.go l2 a S1 := by unfold lSeq; rw [q1]; rfl
  refine ⟨⟨a, S1, q1⟩, fun ρ' S2 e σ' H' z => ?_, fun d S2 e v H' z => ?_, fun ρ' S2 e σ' H' z => ?_, fun ρ' S2 e σ' H' z => ?_, fun C fs ρ' S2 e u s' z => ?_⟩
  · rw [q1] at e
    cases e
    obtain ⟨m', e', x', er', hl'⟩ := z
    rw [key] at h
    exact ⟨m', ρ', S1, x', er', hl', HS.ext h e'⟩
  · rw [q1] at e
    cases e
    exact h.rt d S1 key v H' z
  · rw [q1] at e
    cases e
    exact h.bk ρ' S1 key σ' H' z
  · rw [q1] at e
    cases e
    exact h.ct ρ' S1 key σ' H' z
  · rw [q1] at e
    cases e
    exact h.ex C fs ρ' S1 key u s' z
theorem pssl_cons (h1 : PSL X st l1) (h2 : PSsL X rest l2) : PSsL X (st :: rest) (lSeq l1 l2) :=
  pss_imp (pss_cons h1 h2) fun D σ H ⟨m, ρ, S, x, er, hl, h⟩ => ⟨m, ρ, S, x, er, hl, h.seq⟩
def lBrk : LS := fun ρ S => .ok (.bk ρ) S
def lCont : LS := fun ρ S => .ok (.ct ρ) S
/-- an expression whose value is dropped -/
def lExpr (le : LE) : LS := fun ρ S => liftX ρ (le ρ S) fun _ S1 => .ok (.nx ρ) S1
theorem psl_expr (he : PEL X e le) (hs : swapsWith e none pos.line X.env = pure false := by rfl) : PSL X (.Expr e pos) (lExpr le) := by
  refine ⟨fun pins s σ H D I ⟨m, ρ, S, x, er, hl, h⟩ => ?_⟩
  exact wpAny_Expr_any (expr_in he I x er hl h fun d S1 q v u s1 H1 m1 I1 rv e1 x1 w er1 h1 => ⟨σ, H1, I1, h1.nx ρ S1 rfl σ H1 (sv_same x1 er1 hl)⟩) I.quiet hs
def lRet (le : LE) : LS := fun ρ S => liftX ρ (le ρ S) fun d S1 => .ok (.rt d) S1
theorem psl_ret (he : PEL X e le) : PSL X (.Return (some e) pos) (lRet le) := by
  refine ⟨fun pins s σ H D I ⟨m, ρ, S, x, er, hl, h⟩ => ?_⟩
  exact wpAny_Return_some (expr_in he I x er hl h fun d S1 q v u s1 H1 m1 I1 rv e1 x1 w er1 h1 => ⟨v, σ, H1, I1, rv, h1.rt d S1 rfl v H1 (qv_same x1 w)⟩)
def lRetN : LS := fun _ S => .ok (.rt .non) S
def lIfS (tc : LT) (l1 l2 : LS) : LS := fun ρ S => liftX ρ (tc ρ S) fun b S1 => if b = true then l1 ρ S1 else l2 ρ S1
theorem psl_if {a b : List Stmt} (hc : PTL X c tc) (ha : PSsL X a l1) (hb : PSsL X b l2) : PSL X (.If c a b pos) (lIfS tc l1 l2) := by
  refine ⟨fun pins s σ H D I ⟨m, ρ, S, x, er, hl, h⟩ => ?_⟩
  refine wpAny_If (test_in hc I x er hl h fun k S1 q s1 H1 m1 I1 e1 x1 er1 h1 => ?_)
  cases k with
  | true => exact ha.run pins s1 σ H1 D I1 ⟨m1, ρ, S1, x1, er1, hl, h1⟩
  | false => exact hb.run pins s1 σ H1 D I1 ⟨m1, ρ, S1, x1, er1, hl, h1⟩
/-- name = e -/
def lSet (i : Nat) (le : LE) : LS := fun ρ S => liftX ρ (le ρ S) fun d S1 => .ok (.nx (ρ.set i (some d))) S1
theorem psl_set {i : Nat} (hN : X.N.Nodup) (he : PEL X e le) (hi : X.N[i]? = some x := by rfl) (hx : Loc X.env.scope x := by first | exact .inl rfl | exact .inr rfl) (hs : swapsWith e (some (.Name x pos')) pos.line X.env = pure false := by rfl) (hf : X.fn x = true ∨ X.env.scope.names.lookup x = some .local := by first | exact .inl rfl | exact .inr rfl | assumption) :
    PSL X (.Assign [.Name x pos'] e pos) (lSet i le) := by
  refine ⟨fun pins s σ H D I ⟨m, ρ, S, x0, er, hl, h⟩ => ?_⟩
  refine wpAny_Assign_Name (expr_in he I x0 er hl h fun d S1 q v u s1 H1 m1 I1 rv e1 x1 w er1 h1 => ?_) hs
  exact store_ok I1 hN hi hx rv (fun s2 I2 => ⟨_, H1, I2, h1.nx _ S1 rfl _ H1 ⟨m1, Ext.refl, x1, er1.set w, by simp [hl]⟩⟩) hf
end
end MP

namespace MP
open PySem PySem.Spec PyProof.Rows L2

/-! ### while -/
def tTX (X : Cx) (l : LT) : TT := fun σ H Q => ∃ m ρ S, SR X.K m H S ∧ ER X.K m H σ ρ ∧ Hope X σ m H (l ρ S) ∧ ∀ b S', l ρ S = .ok b S' → ∀ H' m', Ext m H m' H' → SR X.K m' H' S' → Q b H'
/-- a loop's turn forgets what was not there ahead of the loop -/
def wk : Ev → Ev → Ev
  | _, [] => []
  | [], _ :: bs => none :: wk [] bs
  | none :: as, _ :: bs => none :: wk as bs
  | some _ :: as, b :: bs => b :: wk as bs
theorem wk_length : ∀ (as bs : Ev), (wk as bs).length = bs.length
  | _, [] => by cases ‹Ev› <;> rfl
  | [], _ :: bs => by simp [wk, wk_length]
  | none :: as, _ :: bs => by simp [wk, wk_length]
  | some _ :: as, b :: bs => by simp [wk, wk_length]
theorem wk_some : ∀ {as bs : Ev} {i : Nat} {d : D}, (wk as bs)[i]? = some (some d) → bs[i]? = some (some d)
  | as, [], i, d, h => by cases as <;> simp [wk] at h
  | [], b :: bs, 0, d, h => by simp [wk] at h
  | [], b :: bs, i + 1, d, h => by
    simp only [wk, List.getElem?_cons_succ] at h ⊢
    exact wk_some h
  | none :: as, b :: bs, 0, d, h => by simp [wk] at h
  | none :: as, b :: bs, i + 1, d, h => by
    simp only [wk, List.getElem?_cons_succ] at h ⊢
    exact wk_some h
  | some _ :: as, b :: bs, 0, d, h => by simpa [wk] using h
  | some _ :: as, b :: bs, i + 1, d, h => by
    simp only [wk, List.getElem?_cons_succ] at h ⊢
    exact wk_some h
theorem SV.wk {K : PySem.W.Frag} {m : List Addr} {H : Hp} {ρ' : Ev} {S' : Sto} {σ' : L2.St} {H' : Hp} (ρ0 : Ev) (h : SV K m H ρ' S' σ' H') : SV K m H (MP.wk ρ0 ρ') S' σ' H' := by
  obtain ⟨m', a, b, c, d⟩ := h
  exact ⟨m', a, b, ⟨fun i x e => c.at_ i x (wk_some e), by rw [wk_length]; exact d⟩, by rw [wk_length]; exact d⟩
def Fl.loop (ρ0 : Ev) (k : LS) (fl : Fl) (S : Sto) : R Fl := match fl with
  | .nx ρ => k (wk ρ0 ρ) S
  | .ct ρ => k (wk ρ0 ρ) S
  | .bk ρ => .ok (.nx (wk ρ0 ρ)) S
  | fl => .ok fl S
def whileG (ρ0 : Ev) (tc : LT) (lb : LS) : Nat → LS
  | 0 => fun _ _ => .bad
  | n + 1 => fun ρ S => liftX ρ (tc ρ S) fun b S1 => if b = true then (lb ρ S1).bind (Fl.loop ρ0 (whileG ρ0 tc lb n)) else .ok (.nx ρ) S1
def lWhile (n : Nat) (tc : LT) (lb : LS) : LS := fun ρ S => whileG ρ tc lb n ρ S
theorem HS.loop {X : Cx} {D : Ends} {m : List Addr} {H : Hp} {l k : LS} {ρ ρ0 : Ev} {S : Sto} (h : HS X D m H ((l ρ S).bind (Fl.loop ρ0 k))) : HS X { D with nx := fun σ' H' => tSL X k D σ' H', ct := fun σ' H' => tSL X k D σ' H', bk := D.nx } m H (l ρ S) := by
  obtain ⟨fl, S', q⟩ := h.ok
  obtain ⟨a, S1, q1, q2⟩ := bind_nbad q
  have key : (l ρ S).bind (Fl.loop ρ0 k) = Fl.loop ρ0 k a S1 := by rw [q1]; rfl
  rw [key] at h
  refine ⟨⟨a, S1, q1⟩, fun ρ' S2 e σ' H' z => ?_, fun d S2 e v H' z => ?_, fun ρ' S2 e σ' H' z => ?_, fun ρ' S2 e σ' H' z => ?_, fun C fs ρ' S2 e u s' z => ?_⟩
  · rw [q1] at e
    cases e
    obtain ⟨m', e', x', er', hl'⟩ := z.wk ρ0
    exact ⟨m', _, S1, x', er', hl', HS.ext h e'⟩
  · rw [q1] at e
    cases e
    exact h.rt d S1 rfl v H' z
  · rw [q1] at e
    cases e
    exact h.nx _ S1 rfl σ' H' (z.wk ρ0)
  · rw [q1] at e
    cases e
    obtain ⟨m', e', x', er', hl'⟩ := z.wk ρ0
    exact ⟨m', _, S1, x', er', hl', HS.ext h e'⟩
  · rw [q1] at e
    cases e
    exact h.ex C fs ρ' S1 rfl u s' z
/-! ### what is walked -/
/-- the items, and what must stay of the store meanwhile -/
structure Its' where
  items : List D
  chk : Sto → Prop
abbrev LI := Ev → Sto → R Its'
/-- what a turn hands over: a thing of the layer, or a new tuple of such -/
def YS (K : PySem.W.Frag) (m : List Addr) (H Hx : Hp) (x : V) (H' : Hp) (d : D) : Prop :=
  (H' = Hx ∧ VR K m H x d) ∨ ∃ T ws ds, Hx T = none ∧ H' = upd Hx T (.tup ws) ∧ x = .ref T ∧ d = .tup ds ∧ VRs K m H ws ds
def Ylds (K : PySem.W.Frag) (J : It) (m1 : List Addr) (H1 : Hp) (it : Its') : Prop := ∀ m2 H2 S2 Hx, Ext m1 H1 m2 H2 → SR K m2 H2 S2 → it.chk S2 → (∀ a o, H2 a = some o → Hx a = some o) →
  (∀ (i : Nat) (d : D), it.items[i]? = some d → J.go i Hx ∧ ∀ x H', J.yld i Hx x H' → YS K m2 H2 Hx x H' d) ∧ ∀ i, it.items.length ≤ i → J.stop i Hx
def tIL (X : Cx) (li : LI) : TI := fun σ H Rr => ∃ m ρ S, SR X.K m H S ∧ ER X.K m H σ ρ ∧ Hope X σ m H (li ρ S) ∧ ∀ it S1, li ρ S = .ok it S1 → ∀ J H1 m1, Ext m H m1 H1 → SR X.K m1 H1 S1 → Ylds X.K J m1 H1 it → Rr J H1
def PIL (X : Cx) (tg iter : Expr) (li : LI) : Prop := PI X tg iter (tIL X li)
def iterOf (S : Sto) : D → Option Its'
  | .lst xs => some ⟨xs, fun _ => True⟩
  | .tup xs => some ⟨xs, fun _ => True⟩
  | .ftup xs => some ⟨xs, fun _ => True⟩
  | .str z => some ⟨z.cps.toList.map fun c => .str ⟨#[c]⟩, fun _ => True⟩
  | .ref i => match S[i]? with
    | some (.lst xs) => some ⟨xs, fun S' => S'[i]? = some (.lst xs)⟩
    | _ => none
  | _ => none
def liftI (o : Option Its') (S : Sto) : R Its' := match o with
  | some d => .ok d S
  | none => .bad
def lIter (l : LE) : LI := fun ρ S => (l ρ S).bind fun d S1 => liftI (iterOf S1 d) S1
theorem yl_list {K : PySem.W.Frag} {m1 : List Addr} {H1 : Hp} {a : Addr} {vs : List V} {xs : List D} (mu : ∀ a ∈ m1, Mut (H1 a)) (n : a ∉ m1) (h : Rd H1 a (.lst vs)) (r : VRs K m1 H1 vs xs) : Ylds K (Itl K a) m1 H1 ⟨xs, fun _ => True⟩ := fun m2 H2 S2 Hx e x _ sup => by
  have h2 := e.rd n h
  have h3 : Rd Hx a (.lst vs) := by
    rcases h2 with h2 | ⟨o, h2⟩
    · exact .inl (sup _ _ h2)
    · exact .inr ⟨o, sup _ _ h2⟩
  have r2 := r.ext e mu
  refine ⟨fun i d hi => ?_, fun i hi => ⟨vs, .inl h3, by rw [r.length]; exact hi⟩⟩
  obtain ⟨v, hv, w⟩ := r2.getr hi
  refine ⟨⟨vs, v, .inl h3, hv⟩, fun y H' z => .inl ⟨z.1, ?_⟩⟩
  have := z.2 vs (.inl h3)
  rw [hv] at this
  cases this
  exact w
theorem yl_listK {K : PySem.W.Frag} {m1 : List Addr} {H1 : Hp} {a : Addr} {vs : List V} {xs : List D} (mu : ∀ a ∈ m1, Mut (H1 a)) (h : ∀ H, SqL K H a vs) (r : VRs K m1 H1 vs xs) : Ylds K (Itl K a) m1 H1 ⟨xs, fun _ => True⟩ := fun m2 H2 S2 Hx e x _ sup => by
  have r2 := r.ext e mu
  refine ⟨fun i d hi => ?_, fun i hi => ⟨vs, h _, by rw [r.length]; exact hi⟩⟩
  obtain ⟨v, hv, w⟩ := r2.getr hi
  refine ⟨⟨vs, v, h _, hv⟩, fun y H' z => .inl ⟨z.1, ?_⟩⟩
  have := z.2 vs (h _)
  rw [hv] at this
  cases this
  exact w
theorem yl_ref {K : PySem.W.Frag} {m1 : List Addr} {H1 : Hp} {a : Addr} {xs : List D} {j : Nat} (hj : m1[j]? = some a) : Ylds K (Itl K a) m1 H1 ⟨xs, fun S' => S'[j]? = some (.lst xs)⟩ := fun m2 H2 S2 Hx e x c sup => by
  have z := x.at_ j a _ (e.get hj) c
  cases z with
  | lst h r =>
    rename_i vs
    have h3 : SqL K Hx a vs := SqL.of (sup _ _ h)
    refine ⟨fun i d hi => ?_, fun i hi => ⟨vs, h3, by rw [r.length]; exact hi⟩⟩
    obtain ⟨v, hv, w⟩ := r.getr hi
    refine ⟨⟨vs, v, h3, hv⟩, fun y H' z => .inl ⟨z.1, ?_⟩⟩
    have := z.2 vs h3
    rw [hv] at this
    cases this
    exact w
theorem yl_tup {K : PySem.W.Frag} {m1 : List Addr} {H1 : Hp} {a : Addr} {vs : List V} {xs : List D} (mu : ∀ a ∈ m1, Mut (H1 a)) (h : Rd H1 a (.tup vs)) (r : VRs K m1 H1 vs xs) : Ylds K (Itt K a) m1 H1 ⟨xs, fun _ => True⟩ := fun m2 H2 S2 Hx e x _ sup => by
  have h3 : SqT K Hx a vs := SqT.rd (Rd.sup sup (e.rd (fun z => not_mut_tup h (mu a z)) h))
  have r2 := r.ext e mu
  refine ⟨fun i d hi => ?_, fun i hi => ⟨vs, h3, by rw [r.length]; exact hi⟩⟩
  obtain ⟨v, hv, w⟩ := r2.getr hi
  refine ⟨⟨vs, v, h3, hv⟩, fun y H' z => .inl ⟨z.1, ?_⟩⟩
  have := z.2 vs h3
  rw [hv] at this
  cases this
  exact w
theorem yl_str {K : PySem.W.Frag} {m1 : List Addr} {H1 : Hp} {z : Str} : Ylds K (L2.Its z) m1 H1 ⟨z.cps.toList.map fun c => .str ⟨#[c]⟩, fun _ => True⟩ := fun m2 H2 S2 Hx e x _ sup => by
  refine ⟨fun i d hi => ?_, fun i hi => by show z.cps.size ≤ i; simpa using hi⟩
  have hl : i < z.cps.size := by
    have := (List.getElem?_eq_some_iff.mp hi).1
    simpa using this
  refine ⟨hl, fun y H' q => .inl ⟨q.1, ?_⟩⟩
  obtain ⟨c, hc, rfl⟩ := q.2
  simp only [List.getElem?_map, Array.getElem?_toList, hc, Option.map_some, Option.some.injEq] at hi
  subst hi
  exact .str _
section
variable {X : Cx} {tg e : Expr} {l : LE} {t : LA} {p pos : Pos} {a b : Expr}
theorem pil_val (he : PEL X e l) : PIL X tg e (lIter l) := by
  refine ⟨fun pins s σ H Rr I ⟨m, ρ, S, x, er, hp, k⟩ => ?_⟩
  refine run_seq he I x er hp fun d S1 q v u s1 H1 m1 I1 rv e1 x1 w er1 hp1 => ?_
  cases q2 : iterOf S1 d with
  | none => rw [q2] at hp1; exact absurd rfl hp1.1
  | some it =>
    have q3 : lIter l ρ S = .ok it S1 := by unfold lIter; rw [q, bind_ok, q2]; rfl
    have K2 := fun J y => k it S1 q3 J H1 m1 e1 x1 y
    cases w with
    | @lst a vs xs n h r =>
      cases q2
      obtain rfl : u = Value.ref a := rv
      obtain ⟨its, rv', pp, hz⟩ := I1.list (.inl h)
      refine wpAny_pyIter_list pp.isList ?_
      refine ⟨s1.heap.objs.size, [s1.heap.objs.size], _, _, H1, rfl, I1.kept (t' := s1.toks) fun b o e => Heap.get?_push_of_some _ e, turn_list a _, ⟨_, Heap.get?_push_size _ rfl, rfl, rfl⟩, fun b hb => ?_, K2 _ (yl_list x1.muts n h r)⟩
      have e : b = s1.heap.objs.size := by simpa using hb
      subst e
      exact I1.fpOk (Nat.le_refl _) (I1.hok.fresh (Nat.le_refl _))
    | @lstK a vs xs ob its n hk h1 h2 h3 h4 h5 r =>
      cases q2
      obtain rfl : u = Value.ref a := rv
      obtain ⟨its, rv', pp, hz⟩ := I1.list (H := H1) (a := a) (.inr ⟨ob, its, n, hk, h1, h2, h3, h4, h5⟩)
      refine wpAny_pyIter_list pp.isList ?_
      refine ⟨s1.heap.objs.size, [s1.heap.objs.size], _, _, H1, rfl, I1.kept (t' := s1.toks) fun b o e => Heap.get?_push_of_some _ e, turn_list a _, ⟨_, Heap.get?_push_size _ rfl, rfl, rfl⟩, fun b hb => ?_, K2 _ (yl_listK x1.muts (fun _ => .inr ⟨ob, _, n, hk, h1, h2, h3, h4, h5⟩) r)⟩
      have e : b = s1.heap.objs.size := by simpa using hb
      subst e
      exact I1.fpOk (Nat.le_refl _) (I1.hok.fresh (Nat.le_refl _))
    | @tup a vs xs h r =>
      cases q2
      obtain rfl : u = Value.ref a := rv
      obtain ⟨its, rv', pp, hz⟩ := I1.tuple (SqT.of h)
      refine wpAny_pyIter_tuple (show s1.heap.IsTuple a its.toArray from pp) ?_
      refine ⟨s1.heap.objs.size, [s1.heap.objs.size], _, _, H1, rfl, I1.kept (t' := s1.toks) fun b o e => Heap.get?_push_of_some _ e, turn_tuple a _, ⟨_, Heap.get?_push_size _ rfl, rfl, rfl⟩, fun b hb => ?_, K2 _ (yl_tup x1.muts (.inl h) r)⟩
      have e : b = s1.heap.objs.size := by simpa using hb
      subst e
      exact I1.fpOk (Nat.le_refl _) (I1.hok.fresh (Nat.le_refl _))
    | @ftup a vs xs o hd h r =>
      cases q2
      obtain rfl : u = Value.ref a := rv
      obtain ⟨its, rv', pp, hz⟩ := I1.tuple (SqT.rd (.inr ⟨o, h⟩))
      refine wpAny_pyIter_tuple (show s1.heap.IsTuple a its.toArray from pp) ?_
      refine ⟨s1.heap.objs.size, [s1.heap.objs.size], _, _, H1, rfl, I1.kept (t' := s1.toks) fun b o e => Heap.get?_push_of_some _ e, turn_tuple a _, ⟨_, Heap.get?_push_size _ rfl, rfl, rfl⟩, fun b hb => ?_, K2 _ (yl_tup x1.muts (.inr ⟨o, h⟩) r)⟩
      have e : b = s1.heap.objs.size := by simpa using hb
      subst e
      exact I1.fpOk (Nat.le_refl _) (I1.hok.fresh (Nat.le_refl _))
    | str z =>
      cases q2
      obtain ⟨tk, rfl⟩ := rv
      cases ha : z.cps.all (· < 128)
      · exact wpAny_pyIter_wide ha (pi_one (tk := s1.toks) I1 _ (turn_str _ z tk "str_iterator" (.inr rfl)) ⟨_, Heap.get?_push_size _ rfl, rfl, rfl⟩ (K2 _ yl_str))
      · exact wpAny_pyIter_ascii ha (pi_one (tk := s1.toks) I1 _ (turn_str _ z tk "str_ascii_iterator" (.inl rfl)) ⟨_, Heap.get?_push_size _ rfl, rfl, rfl⟩ (K2 _ yl_str))
    | @ref i a h =>
      dsimp only [iterOf] at q2
      cases q4 : S1[i]? with
      | none => rw [q4] at q2; cases q2
      | some ob =>
        rw [q4] at q2
        cases ob with
        | lst xs =>
          cases q2
          have z := x1.at_ i a _ h q4
          cases z with
          | lst h' r =>
            obtain rfl : u = Value.ref a := rv
            obtain ⟨its, rv', pp, hz⟩ := I1.list (SqL.of h')
            refine wpAny_pyIter_list pp.isList ?_
            refine ⟨s1.heap.objs.size, [s1.heap.objs.size], _, _, H1, rfl, I1.kept (t' := s1.toks) fun b o e => Heap.get?_push_of_some _ e, turn_list a _, ⟨_, Heap.get?_push_size _ rfl, rfl, rfl⟩, fun b hb => ?_, K2 _ (yl_ref h)⟩
            have e : b = s1.heap.objs.size := by simpa using hb
            subst e
            exact I1.fpOk (Nat.le_refl _) (I1.hok.fresh (Nat.le_refl _))
        | dct _ _ => cases q2
        | ins _ _ => cases q2
    | _ => cases q2
/-- range(n) -/
def lRange1 (t : LA) : LI := fun ρ S => (t ρ S).bind fun ds S1 => match ds with
  | [.int j] => if -(2 ^ 62) ≤ j ∧ j < 2 ^ 62 then .ok ⟨(List.range j.toNat).map fun (i : Nat) => .int (i : Int), fun _ => True⟩ S1 else .bad
  | _ => .bad
theorem pil_range1 (hg : Gl X "range") (hm : X.mg "range" = none) (ha : PAL X [a] t) (hs : starEach [a] X.env = [(false, eval a X.env)] := by rfl) : PIL X tg (.Call (.Name "range" p) [a] [] pos) (lRange1 t) := by
  refine ⟨fun pins s σ H Rr I ⟨m, ρ, S, x, er, hp, k⟩ => ?_⟩
  refine Call_ (ld_blt I hg hm boot_range (PyProof.Rows.callWith_type1 (run_seqA ha I x er hp fun ds S1 q1 vs us s1 H1 m1 I1 rv e1 x1 w1 r1 hp1 => ?_) hs rfl))
  cases w1 with
  | nil => exact absurd rfl hp1.1
  | cons w w2 =>
    cases w2 with
    | cons _ _ => cases w <;> exact absurd rfl hp1.1
    | nil =>
      cases w with
      | int j =>
        have hz := hope_if hp1
        have q2 : lRange1 t ρ S = .ok ⟨(List.range j.toNat).map fun (i : Nat) => .int (i : Int), fun _ => True⟩ S1 := by unfold lRange1; rw [q1, bind_ok]; exact if_pos hz
        cases rv with
        | cons r rr =>
          cases rr
          obtain ⟨tk, rfl⟩ := r
          refine call_range_1 (range_it I1 (by omega) (by omega) hz.1 hz.2 (k _ S1 q2 _ H1 m1 e1 x1 fun m2 H2 S2 Hx e x _ sup => ⟨fun i d hi => ?_, fun i hi => ?_⟩))
          · have hl : i < (j - 0).toNat := by
              have := (List.getElem?_eq_some_iff.mp hi).1
              simpa using this
            refine ⟨hl, fun y H' q => .inl ⟨q.1, ?_⟩⟩
            rw [q.2]
            simp only [List.getElem?_map, List.getElem?_range (show i < j.toNat by simpa using hl), Option.map_some, Option.some.injEq] at hi
            subst hi
            rw [Int.zero_add]
            exact .int _
          · show (j - 0).toNat ≤ i
            simpa using hi
      | _ => exact absurd rfl hp1.1
/-- enumerate(a list) -/
def enumD (xs : List D) : List D := (List.range xs.length).zipWith (fun (i : Nat) x => .tup [.int (i : Int), x]) xs
def lEnum (t : LA) : LI := fun ρ S => (t ρ S).bind fun ds S1 => match ds with
  | [.lst xs] => .ok ⟨enumD xs, fun _ => True⟩ S1
  | _ => .bad
end
end MP

namespace MP
open PySem PySem.Spec PyProof.Rows L2

/-! ### targets -/
abbrev GT := D → Ev → Option Ev
abbrev GTs := List D → Ev → Option Ev
def tGL (K : PySem.W.Frag) (ix : List Nat) (g : GT) : TG := fun v σ H Q => ∃ m Hr ρ d ρ', (∀ a xs, Hr a = some (.tup xs) → H a = some (.tup xs)) ∧ VR K m Hr v d ∧ ER K m Hr σ ρ ∧ ρ.length = σ.length ∧ g d ρ = some ρ' ∧
  ∀ σ', ER K m Hr σ' ρ' → ρ'.length = σ'.length → σ'.length = σ.length → (∀ j, j ∉ ix → σ'[j]? = σ[j]?) → Q σ' H
def tGLs (K : PySem.W.Frag) (ix : List Nat) (g : GTs) : TGs := fun vs σ H Q => ∃ m Hr ρ ds ρ', (∀ a xs, Hr a = some (.tup xs) → H a = some (.tup xs)) ∧ VRs K m Hr vs ds ∧ ER K m Hr σ ρ ∧ ρ.length = σ.length ∧ g ds ρ = some ρ' ∧
  ∀ σ', ER K m Hr σ' ρ' → ρ'.length = σ'.length → σ'.length = σ.length → (∀ j, j ∉ ix → σ'[j]? = σ[j]?) → Q σ' H
def PGL (X : Cx) (tg : Expr) (ix : List Nat) (g : GT) : Prop := PG X tg (tGL X.K ix g)
def PGsL (X : Cx) (tgs : List Expr) (ix : List Nat) (g : GTs) : Prop := PGs X tgs (tGLs X.K ix g)
theorem pg_imp {X : Cx} {tg : Expr} {t u : TG} (h : PG X tg t) (k : ∀ v σ H Q, u v σ H Q → t v σ H Q) : PG X tg u := ⟨fun pins s σ H v u' Q I r q => h.run pins s σ H v u' Q I r (k v σ H Q q)⟩
theorem pgs_imp {X : Cx} {tg : List Expr} {t u : TGs} (h : PGs X tg t) (k : ∀ v σ H Q, u v σ H Q → t v σ H Q) : PGs X tg u := ⟨fun pins s σ H v u' Q I r q => h.run pins s σ H v u' Q I r (k v σ H Q q)⟩
def gtName (i : Nat) : GT := fun d ρ => some (ρ.set i (some d))
def gtNil : GTs := fun ds ρ => match ds with
  | [] => some ρ
  | _ :: _ => none
def gtCons (g : GT) (gs : GTs) : GTs := fun ds ρ => match ds with
  | [] => none
  | d :: r => (g d ρ).bind fun ρ' => gs r ρ'
def gtTup (n : Nat) (gs : GTs) : GT := fun d ρ => match d with
  | .tup ds => if ds.length = n then gs ds ρ else none
  | _ => none
section
variable {X : Cx} {pos : Pos} {x : Str} {e : Expr} {es : List Expr}
theorem pgl_name {i : Nat} (hN : X.N.Nodup) (hi : X.N[i]? = some x := by rfl) (hx : Loc X.env.scope x := by first | exact .inl rfl | exact .inr rfl) (hf : X.fn x = true ∨ X.env.scope.names.lookup x = some .local := by first | exact .inl rfl | exact .inr rfl | assumption) : PGL X (.Name x pos) [i] (gtName i) :=
  pg_imp (pg_name hN hi hx hf) fun v σ H Q ⟨m, Hr, ρ, d, ρ', h1, h2, h3, h4, h5, k⟩ => by
    cases h5
    exact k _ (h3.set h2) (by simp [h4]) (by simp) fun j hj => by rw [List.getElem?_set_ne (fun z => hj (by simp [z]))]
theorem pgsl_nil : PGsL X [] [] gtNil := pgs_imp pgs_nil fun vs σ H Q ⟨m, Hr, ρ, ds, ρ', h1, h2, h3, h4, h5, k⟩ => by
  cases h2 with
  | nil => cases h5; exact ⟨rfl, k σ h3 h4 rfl fun _ _ => rfl⟩
  | cons _ _ => cases h5
theorem pgsl_cons {ix ix' : List Nat} {g : GT} {gs : GTs} (h1 : PGL X e ix g) (h2 : PGsL X es ix' gs) (hs : (assignEach (e :: es) X.env).map (·.2) = assign e X.env :: (assignEach es X.env).map (·.2) := by rfl) : PGsL X (e :: es) (ix ++ ix') (gtCons g gs) :=
  pgs_imp (pgs_cons h1 h2 hs) fun vs σ H Q ⟨m, Hr, ρ, ds, ρ', h1, h2, h3, h4, h5, k⟩ => by
    cases h2 with
    | nil => cases h5
    | @cons v d vs ds hv hr =>
      dsimp only [gtCons] at h5
      cases q : g d ρ with
      | none => rw [q] at h5; cases h5
      | some ρ1 =>
        rw [q] at h5
        exact ⟨v, vs, rfl, m, Hr, ρ, d, ρ1, h1, hv, h3, h4, q, fun σ1 e1 l1 l2 k1 => ⟨m, Hr, ρ1, ds, ρ', h1, hr, e1, l1, h5, fun σ2 e2 l3 l4 k2 => k σ2 e2 l3 (l4.trans l2) fun j hj => (k2 j fun z => hj (List.mem_append_right _ z)).trans (k1 j fun z => hj (List.mem_append_left _ z))⟩⟩
theorem pgl_tup {ix : List Nat} {gs : GTs} {n k : Nat} (hc : X.calm = true) (h : PGsL X es ix gs) (hn : (assignEach es X.env).length = n := by rfl) (hst : (assignEach es X.env).findIdx? (·.1) = none := by rfl) : PGL X (.Tuple es k pos) ix (gtTup n gs) :=
  pg_imp (pg_tup (n := n) hc h hn hst) fun v σ H Q ⟨m, Hr, ρ, d, ρ', h1, h2, h3, h4, h5, k⟩ => by
    cases h2 with
    | @tup a vs ds ha hr =>
      dsimp only [gtTup] at h5
      split at h5
      · rename_i hl
        exact ⟨a, vs, rfl, SqT.of (h1 _ _ ha), by rw [hr.length]; exact hl, m, Hr, ρ, ds, ρ', h1, hr, h3, h4, h5, k⟩
      · cases h5
    | _ => cases h5
end

/-! ### for -/
open Classical in
noncomputable def forG (ρ0 : Ev) (chk : Sto → Prop) (g : GT) (lb : LS) : List D → LS
  | [] => fun ρ S => if chk S then .ok (.nx ρ) S else .bad
  | d :: ds => fun ρ S => if chk S then (match g d ρ with
    | some ρ1 => (lb ρ1 S).bind (Fl.loop ρ0 (forG ρ0 chk g lb ds))
    | none => .bad) else .bad
noncomputable def lFor (li : LI) (g : GT) (lb : LS) : LS := fun ρ S => liftX ρ (li ρ S) fun it S1 => forG ρ it.chk g lb it.items ρ S1
theorem ys_vr {K : PySem.W.Frag} {m : List Addr} {H Hx H' : Hp} {x : V} {d : D} (mu : ∀ a ∈ m, Mut (H a)) (h : YS K m H H x H' d) : VR K m H' x d ∧ Ext m H m H' := by
  rcases h with ⟨rfl, h⟩ | ⟨T, ws, ds, hT, rfl, rfl, rfl, r⟩
  · exact ⟨h, Ext.refl⟩
  · exact ⟨.tup upd_same (r.ext (Ext.fresh hT) mu), Ext.fresh hT⟩
theorem psl_for {X : Cx} {tg iter : Expr} {body : List Stmt} {li : LI} {ix : List Nat} {g : GT} {lb : LS} {pos : Pos} (hp : PassesOwn (model X.prog X.w) X.A X.env X.xe) (hc : X.calm = true) (hi : PIL X tg iter li) (hg : PGL X tg ix g) (hb : PSsL X body lb)
    (hs : ∀ x, foldedSetIterable iter X.env x = pure x := by intro _; rfl) : PSL X (.For tg iter body [] pos) (lFor li g lb) := by
  refine ps_imp (ps_for hp hc hi hg hb hs) fun D σ H ⟨m0, ρ0, S0, x0, er0, hl0, h0⟩ => ?_
  have h0' : HS X D m0 H (liftX ρ0 (li ρ0 S0) fun it S1 => forG ρ0 it.chk g lb it.items ρ0 S1) := h0
  refine ⟨m0, ρ0, S0, x0, er0, HS.hope h0' er0 hl0 x0, fun it S1 q J H1 m1 e1 x1 yl => ?_⟩
  rw [q] at h0'
  have h1 : HS X D m1 H1 (forG ρ0 it.chk g lb it.items ρ0 S1) := HS.ext h0' e1
  refine ⟨fun i k σ H => k + i = it.items.length ∧ ∃ m ρ S, Ext m1 H1 m H ∧ SR X.K m H S ∧ ER X.K m H σ ρ ∧ ρ.length = σ.length ∧ HS X D m H (forG ρ0 it.chk g lb (it.items.drop i) ρ S), ⟨it.items.length, by simp, m1, ρ0, S1, Ext.refl, x1, er0.ext e1 x0.muts, hl0, by simpa using h1⟩, ?_⟩
  rintro i k σ H ⟨hk, m, ρ, S, e, x, er, hl, h⟩
  by_cases hi : i < it.items.length
  · have hd : it.items.drop i = it.items[i] :: it.items.drop (i + 1) := List.drop_eq_getElem_cons hi
    rw [hd] at h
    have hchk : it.chk S := by
      by_cases z : it.chk S
      · exact z
      · obtain ⟨fl, S', q⟩ := h.ok
        dsimp only [forG] at q
        rw [if_neg z] at q
        cases q
    dsimp only [forG] at h
    rw [if_pos hchk] at h
    cases hgd : g it.items[i] ρ with
    | none => rw [hgd] at h; obtain ⟨fl, S', q⟩ := h.ok; cases q
    | some ρ1 =>
      rw [hgd] at h
      dsimp only at h
      obtain ⟨y1, y2⟩ := yl m H S H e x hchk fun _ _ z => z
      obtain ⟨go, yy⟩ := y1 i it.items[i] (List.getElem?_eq_getElem hi)
      refine .inr ⟨go, fun σ' H' => ∃ m ρ S, Ext m1 H1 m H' ∧ SR X.K m H' S ∧ ER X.K m H' σ' ρ ∧ ρ.length = σ'.length ∧ HS X D m H' (forG ρ0 it.chk g lb (it.items.drop (i + 1)) ρ S), fun σ' H' z => ⟨k - 1, by omega, by omega, z⟩, fun v H' hy => ?_⟩
      obtain ⟨w, e2⟩ := ys_vr (Hx := H) x.muts (yy v H' hy)
      have x2 : SR X.K m H' S := by
        rcases yy v H' hy with ⟨rfl, _⟩ | ⟨T, ws, ds, hT, rfl, _⟩
        · exact x
        · exact x.fresh hT
      refine ⟨m, H', ρ, it.items[i], ρ1, fun _ _ z => z, w, er.ext e2 x.muts, hl, hgd, fun σ2 er2 hl2 _ _ => ⟨m, ρ1, S, x2, er2, hl2, ?_⟩⟩
      obtain ⟨fl, S', qok⟩ := (HS.ext h e2).ok
      obtain ⟨a, S3, qa, qb⟩ := bind_nbad qok
      -- the ways out, by the place where they lie
      have key : (lb ρ1 S).bind (Fl.loop ρ0 (forG ρ0 it.chk g lb (it.items.drop (i + 1)))) = Fl.loop ρ0 (forG ρ0 it.chk g lb (it.items.drop (i + 1))) a S3 := by rw [qa]; rfl
      have hA := HS.ext h e2
      rw [key] at hA
      refine ⟨⟨a, S3, qa⟩, fun ρ' S2 ee σ' H'' z => ?_, fun d S2 ee v H'' z => ?_, fun ρ' S2 ee σ' H'' z => ?_, fun ρ' S2 ee σ' H'' z => ?_, fun C fs ρ' S2 ee u s' z => ?_⟩
      · rw [qa] at ee
        cases ee
        obtain ⟨m', e', x', er', hl'⟩ := z.wk ρ0
        exact ⟨m', _, S3, (e.trans e2).trans e', x', er', hl', HS.ext hA e'⟩
      · rw [qa] at ee
        cases ee
        exact hA.rt d S3 rfl v H'' z
      · rw [qa] at ee
        cases ee
        exact hA.nx _ S3 rfl σ' H'' (z.wk ρ0)
      · rw [qa] at ee
        cases ee
        obtain ⟨m', e', x', er', hl'⟩ := z.wk ρ0
        exact ⟨m', _, S3, (e.trans e2).trans e', x', er', hl', HS.ext hA e'⟩
      · rw [qa] at ee
        cases ee
        exact hA.ex C fs ρ' S3 rfl u s' z
  · have hd : it.items.drop i = [] := List.drop_eq_nil_of_le (by omega)
    rw [hd] at h
    have hchk : it.chk S := by
      by_cases z : it.chk S
      · exact z
      · obtain ⟨fl, S', q⟩ := h.ok
        dsimp only [forG] at q
        rw [if_neg z] at q
        cases q
    dsimp only [forG] at h
    rw [if_pos hchk] at h
    obtain ⟨y1, y2⟩ := yl m H S H e x hchk fun _ _ z => z
    exact .inl ⟨y2 i (by omega), h.nx ρ S rfl σ H (sv_same x er hl)⟩
end MP

namespace MP
open PySem PySem.Spec PyProof.Rows L2

/-! ### a list that is being made is hidden -/
def hid (H : Hp) (p : Addr) : Hp := fun b => if b = p then none else H b
theorem hid_ne {H : Hp} {a p : Addr} (h : a ≠ p) : hid H p a = H a := if_neg h
theorem hid_same {H : Hp} {p : Addr} : hid H p p = none := if_pos rfl
section
variable {X : Cx} {pins : List (Addr × Obj)} {σ : L2.St} {H : Hp} {s : Shared} {p : Addr} {vs : List V}
theorem hide_inv (I : Inv X pins σ H s) (hD : H p = some (.lst vs)) : ∃ o, Inv X ((p, o) :: pins) σ (hid H p) s ∧ ∀ σ' s' H', Inv X ((p, o) :: pins) σ' H' s' → Inv X pins σ' (upd H' p (.lst vs)) s' ∧ H' p = none := by
  obtain ⟨hz, its, n, rv, ho⟩ : vs.length ≤ sizeLine ∧ ∃ (its : List Value) (n : Nat), Vals vs its ∧ s.heap.get? p = some { cls := .type "list", data := .seq its.toArray n } := I.hok p _ hD
  have ns : ∀ b o, X.s_0.heap.get? b = some o → X.H_0 b = none → b ∉ X.ex → b ≠ p := fun b o q n hx z => by
    have := I.base.free b o q n hx
    rw [z, hD] at this; cases this
  have nt : ∀ b u, H b = some u → (∀ xs, u ≠ .lst xs) → b ≠ p := fun b u q nl z => by
    rw [z, hD] at q
    cases q
    exact nl _ rfl
  have nloc : p ≠ X.env.locals := fun z => by
    have := I.free
    rw [← z, hD] at this; cases this
  have nfs : p ∉ X.fs := fun hb => by
    obtain ⟨_, o, ho', _⟩ := I.ok.funs.mem hb
    have := I.base.free p o ho' (I.ok.frf p hb) fun z => I.ok.exfs p z hb
    rw [hD] at this; cases this
  refine ⟨{ cls := .type "list", data := .seq its.toArray n }, ⟨I.ok, I.os, I.bare, ⟨I.base.keep, I.base.slot, fun b o q n hx => ?_, I.base.there, fun b xs q => ?_, fun b o u q => ?_, fun b ps q => ?_⟩, I.loc, I.cell, ?_, fun x c e => ?_, fun q hq => ?_, fun b u q => ?_, I.len⟩, fun σ' s' H' J => ?_⟩
  · rw [hid_ne (ns b o q n hx)]; exact I.base.free b o q n hx
  · rw [hid_ne (nt b _ (I.base.tups b xs q) fun _ z => nomatch z)]; exact I.base.tups b xs q
  · rw [hid_ne (nt b _ (I.base.frzs b o u q) fun _ z => nomatch z)]; exact I.base.frzs b o u q
  · obtain ⟨more, e⟩ := I.base.tbls b ps q
    exact ⟨more, by rw [hid_ne (nt b _ e fun _ z => nomatch z)]; exact e⟩
  · rw [hid_ne nloc.symm]; exact I.free
  · by_cases hc : c = p
    · rw [hc]; exact hid_same
    · rw [hid_ne hc]; exact I.freeC x c e
  · rcases List.mem_append.mp hq with z | z
    · obtain ⟨a1, a2, a3⟩ := I.pin q (List.mem_append_left _ z)
      refine ⟨a1, ?_, a3⟩
      by_cases hc : q.1 = p
      · rw [hc]; exact hid_same
      · rw [hid_ne hc]; exact a2
    · rcases List.mem_cons.mp z with z | z
      · subst z
        exact ⟨ho, hid_same, nloc, nfs, fun v z => nomatch z⟩
      · obtain ⟨a1, a2, a3⟩ := I.pin q (List.mem_append_right _ z)
        refine ⟨a1, ?_, a3⟩
        by_cases hc : q.1 = p
        · rw [hc]; exact hid_same
        · rw [hid_ne hc]; exact a2
  · have hb : b ≠ p := fun z => by rw [z, hid_same] at q; cases q
    rw [hid_ne hb] at q
    exact (I.hok b u q).stay (fun c v _ z => z) (fun c z => by rw [hid_ne (nt c _ z fun _ z => nomatch z)]; exact z) fun c xs z => by rw [hid_ne (nt c _ z fun _ z => nomatch z)]; exact z
  · obtain ⟨p1, p2, _⟩ := J.pin (p, _) (List.mem_append_right _ List.mem_cons_self)
    have n2 : ∀ b u, H' b = some u → b ≠ p := fun b u q z => by rw [z, p2] at q; cases q
    refine ⟨⟨J.ok, J.os, J.bare, ⟨J.base.keep, J.base.slot, fun b o q n hx => ?_, J.base.there, fun b xs q => ?_, fun b o u q => ?_, fun b ps q => ?_⟩, J.loc, J.cell, ?_, fun x c e => ?_, fun q hq => ?_, fun b u q => ?_, J.len⟩, p2⟩
    · rw [upd_ne (ns b o q n hx)]; exact J.base.free b o q n hx
    · rw [upd_ne (n2 b _ (J.base.tups b xs q))]; exact J.base.tups b xs q
    · rw [upd_ne (n2 b _ (J.base.frzs b o u q))]; exact J.base.frzs b o u q
    · obtain ⟨more, e⟩ := J.base.tbls b ps q
      exact ⟨more, by rw [upd_ne (n2 b _ e)]; exact e⟩
    · rw [upd_ne nloc.symm]; exact J.free
    · have : c ≠ p := fun z => by
        have := I.freeC x c e
        rw [z, hD] at this; cases this
      rw [upd_ne this]; exact J.freeC x c e
    · have hq' : q ∈ X.pn ++ (p, ({ cls := .type "list", data := .seq its.toArray n } : Obj)) :: pins := by
        rcases List.mem_append.mp hq with z | z
        · exact List.mem_append_left _ z
        · exact List.mem_append_right _ (List.mem_cons_of_mem _ z)
      obtain ⟨a1, a2, a3⟩ := J.pin q hq'
      refine ⟨a1, ?_, a3⟩
      have : q.1 ≠ p := fun z => by
        have := (I.pin q hq).2.1
        rw [z, hD] at this; cases this
      rw [upd_ne this]; exact a2
    · by_cases hb : b = p
      · subst hb
        rw [upd_same] at q
        cases q
        exact ⟨hz, its, n, rv, p1⟩
      · rw [upd_ne hb] at q
        exact (J.hok b u q).stay (fun c v _ z => z) (fun c z => by rw [upd_ne (n2 c _ z)]; exact z) fun c xs z => by rw [upd_ne (n2 c _ z)]; exact z
def tHide (t : TE) : TE := fun σ H Q => ∃ p vs, H p = some (.lst vs) ∧ t σ (hid H p) fun v H' => H' p = none → Q v (upd H' p (.lst vs))
def tHideT (t : TT) : TT := fun σ H Q => ∃ p vs, H p = some (.lst vs) ∧ t σ (hid H p) fun v H' => H' p = none → Q v (upd H' p (.lst vs))
theorem pe_hide {e : Expr} {t : TE} (h : PE X e t) : PE X e (tHide t) := by
  refine ⟨fun pins s σ H Q I ⟨p, vs, hp, q⟩ => ?_⟩
  obtain ⟨o, I1, back⟩ := hide_inv I hp
  exact thn (h.run _ s σ _ _ I1 q) fun u s' ⟨v, H', I', rv, q'⟩ => ⟨v, _, (back _ _ _ I').1, rv, q' (back _ _ _ I').2⟩
theorem pts_hide {es : List Expr} {t : TT} (h : PTs X es t) : PTs X es (tHideT t) := by
  refine ⟨fun pins s σ H Q I ⟨p, vs, hp, q⟩ => ?_⟩
  obtain ⟨o, I1, back⟩ := hide_inv I hp
  exact thn (h.run _ s σ _ _ I1 q) fun u s' ⟨H', I', q'⟩ => ⟨_, (back _ _ _ I').1, q' (back _ _ _ I').2⟩
end

/-! ### comprehensions -/
def noex {α : Type} (r : R α) : R α := match r with
  | .exc _ _ _ => .bad
  | r => r
def wipeE (ρ : Ev) : List Nat → Ev
  | [] => ρ
  | i :: r => (wipeE ρ r).set i none
open Classical in
noncomputable def compG (chk : Sto → Prop) (g : GT) (tt : LT) (te : LE) (ρ0 : Ev) : List D → Sto → R (List D)
  | [], S => if chk S then .ok [] S else .bad
  | d :: ds, S => if chk S then (match g d ρ0 with
    | some ρ1 => (noex (tt ρ1 S)).bind fun b S1 => if b = true then (noex (te ρ1 S1)).bind fun y S2 => (compG chk g tt te ρ0 ds S2).bind fun ys S3 => .ok (y :: ys) S3 else compG chk g tt te ρ0 ds S1
    | none => .bad) else .bad
noncomputable def compL (li : LI) (ix : List Nat) (g : GT) (tt : LT) (te : LE) : LA := fun ρ S => (li ρ S).bind fun it S1 => if it.items.length ≤ sizeLine then compG it.chk g tt te (wipeE ρ ix) it.items S1 else .bad
/-- the list as it is; a list of the store -/
noncomputable def lComp (li : LI) (ix : List Nat) (g : GT) (tt : LT) (te : LE) : LE := fun ρ S => (compL li ix g tt te ρ S).bind fun ys S2 => .ok (.lst ys) S2
noncomputable def lCompN (li : LI) (ix : List Nat) (g : GT) (tt : LT) (te : LE) : LE := fun ρ S => (compL li ix g tt te ρ S).bind fun ys S2 => .ok (.ref S2.length) (S2 ++ [.lst ys])
def tYesL : LT := fun _ S => .ok true S
theorem wipeE_some : ∀ {ix : List Nat} {ρ : Ev} {i : Nat} {d : D}, (wipeE ρ ix)[i]? = some (some d) → ρ[i]? = some (some d) ∧ i ∉ ix
  | [], _, _, _, h => ⟨h, by simp⟩
  | j :: r, ρ, i, d, h => by
    by_cases hj : j = i
    · subst hj
      simp only [wipeE] at h
      by_cases hl : j < (wipeE ρ r).length
      · rw [List.getElem?_set_self hl] at h; cases h
      · rw [List.getElem?_eq_none (by simp; omega)] at h; cases h
    · simp only [wipeE] at h
      rw [List.getElem?_set_ne hj] at h
      obtain ⟨a, b⟩ := wipeE_some h
      exact ⟨a, by simp [b]; exact fun z => hj z.symm⟩
theorem wipeE_length (ρ : Ev) : ∀ ix : List Nat, (wipeE ρ ix).length = ρ.length
  | [] => rfl
  | j :: r => by simp [wipeE, wipeE_length ρ r]
theorem ER.wipe {K : PySem.W.Frag} {m : List Addr} {H : Hp} {σ : L2.St} {ρ : Ev} (r : ER K m H σ ρ) (ix : List Nat) : ER K m H (L2.wipe σ ix) (wipeE ρ ix) := ⟨fun i d h => by
  obtain ⟨h1, h2⟩ := wipeE_some h
  obtain ⟨v, h3, h4⟩ := r.at_ i d h1
  exact ⟨v, by rw [wipe_out h2]; exact h3, h4⟩, by rw [wipeE_length, wipe_length]; exact r.len⟩
theorem wipe_eq {σ σ' : L2.St} {ix : List Nat} (hl : σ'.length = σ.length) (h : ∀ j, j ∉ ix → σ'[j]? = σ[j]?) : L2.wipe σ' ix = L2.wipe σ ix := by
  apply List.ext_getElem?
  intro i
  by_cases hi : i ∈ ix
  · have z : ∀ τ : L2.St, τ.length = σ.length → (L2.wipe τ ix)[i]? = if i < σ.length then some none else none := fun τ ht => by
      cases q : (L2.wipe τ ix)[i]? with
      | none =>
        rw [List.getElem?_eq_none_iff, wipe_length, ht] at q
        rw [if_neg (by omega)]
      | some o =>
        have h1 := (List.getElem?_eq_some_iff.mp q).1
        rw [wipe_length, ht] at h1
        rw [if_pos h1]
        cases o with
        | none => rfl
        | some v => exact absurd hi (wipe_some q).2
    rw [z σ' hl, z σ rfl]
  · rw [wipe_out hi, wipe_out hi]
    exact h i hi
end MP

namespace MP
open PySem PySem.Spec PyProof.Rows L2

section
variable {K : PySem.W.Frag} {m : List Addr} {H H' : Hp} {p : Addr} {o : HO} {S : Sto}
theorem hid_upd (h : H p = none) : hid (upd H p o) p = H := by
  funext b
  by_cases e : b = p
  · rw [e, hid_same, h]
  · rw [hid_ne e, upd_ne e]
theorem upd_hid (h : H p = some o) : upd (hid H p) p o = H := by
  funext b
  by_cases e : b = p
  · rw [e, upd_same, h]
  · rw [upd_ne e, hid_ne e]
theorem sup_hid : ∀ a o, hid H p a = some o → H a = some o := fun a o e => by
  have : a ≠ p := fun z => by rw [z, hid_same] at e; cases e
  rwa [hid_ne this] at e
end
/-- what lc_core asks, from the store's words -/
theorem comp_read {X : Cx} {li : LI} {ix : List Nat} {g : GT} {tt : LT} {te : LE} {σ : L2.St} {H : Hp} {m : List Addr} {ρ : Ev} {S : Sto} (x0 : SR X.K m H S) (er0 : ER X.K m H σ ρ) (hp : Hope X σ m H (compL li ix g tt te ρ S)) {Q : VK}
    (hQ : ∀ ys S2, compL li ix g tt te ρ S = .ok ys S2 → ∀ p vs m2 H2, Ext m H m2 H2 → SR X.K m2 H2 S2 → H2 p = none → VRs X.K m2 H2 vs ys → Q (.ref p) (upd H2 p (.lst vs))) :
    tLc (tIL X li) (tGL X.K ix g) (tHideT (tT0 X.K tt)) (tHide (tL0 X.K te)) ix σ H Q := by
  refine ⟨m, ρ, S, x0, er0, hope_seq hp, fun it S1 q1 J H1 m1 e1 x1 yl => ?_⟩
  unfold compL at hp hQ
  rw [q1, bind_ok] at hp hQ
  have hz := hope_if hp
  rw [if_pos hz] at hp hQ
  have er1 := (er0.ext e1 x0.muts).wipe ix
  intro D hD
  -- what holds ahead of turn i: so much is made, the rest gives the rest
  refine ⟨fun i k H => k + i = it.items.length ∧ ∃ (vs : List V) (acc : List MP.D) (m : List Addr) (S : Sto), H D = some (.lst vs) ∧ Ext m1 H1 m (hid H D) ∧ SR X.K m (hid H D) S ∧ VRs X.K m (hid H D) vs acc ∧ acc.length ≤ i ∧
      ∃ ys S2, compG it.chk g tt te (wipeE ρ ix) (it.items.drop i) S = .ok ys S2 ∧ compG it.chk g tt te (wipeE ρ ix) it.items S1 = .ok (acc ++ ys) S2, ⟨it.items.length, by simp, [], [], m1, S1, upd_same, ?_, ?_, .nil, Nat.zero_le _, ?_⟩, ?_⟩
  · rw [hid_upd hD]; exact Ext.refl
  · rw [hid_upd hD]; exact x1
  · cases q : compG it.chk g tt te (wipeE ρ ix) it.items S1 with
    | bad => rw [q] at hp; exact absurd rfl hp.1
    | ok ys S2 => exact ⟨ys, S2, by simpa using q, by simp⟩
    | exc C fs S2 =>
      exfalso
      have : ∀ (l : List MP.D) (S : Sto) C fs S2, compG it.chk g tt te (wipeE ρ ix) l S ≠ .exc C fs S2 := by
        intro l
        induction l with
        | nil =>
          intro S C fs S2 z
          dsimp only [compG] at z
          split at z <;> cases z
        | cons d ds ih =>
          intro S C fs S2 z
          dsimp only [compG] at z
          split at z
          · split at z
            · rename_i ρ1 _
              cases q : tt ρ1 S with
              | bad => rw [q] at z; cases z
              | exc _ _ _ => rw [q] at z; cases z
              | ok b S3 =>
                rw [q] at z
                dsimp only [noex, R.bind] at z
                split at z
                · cases q2 : te ρ1 S3 with
                  | bad => rw [q2] at z; cases z
                  | exc _ _ _ => rw [q2] at z; cases z
                  | ok y S4 =>
                    rw [q2] at z
                    dsimp only [noex, R.bind] at z
                    cases q3 : compG it.chk g tt te (wipeE ρ ix) ds S4 with
                    | bad => rw [q3] at z; cases z
                    | ok _ _ => rw [q3] at z; cases z
                    | exc C' fs' S' => exact ih _ _ _ _ q3
                · exact ih _ _ _ _ z
            · cases z
          · cases z
      exact this _ _ _ _ _ q
  · rintro i k H ⟨hk, vs, acc, m2, S2, hHD, e2, x2, r2, hacc, ys, S3, c1, c2⟩
    have er2 : ER X.K m2 (hid H D) (L2.wipe σ ix) (wipeE ρ ix) := er1.ext e2 x1.muts
    by_cases hi : i < it.items.length
    · have hd : it.items.drop i = it.items[i] :: it.items.drop (i + 1) := List.drop_eq_getElem_cons hi
      rw [hd] at c1
      dsimp only [compG] at c1
      split at c1
      · rename_i hchk
        obtain ⟨y1, _⟩ := yl m2 (hid H D) S2 H e2 x2 hchk sup_hid
        obtain ⟨go, yy⟩ := y1 i it.items[i] (List.getElem?_eq_getElem hi)
        split at c1
        · rename_i ρ1 hg1
          refine .inr ⟨go, fun H' => (k - 1) + (i + 1) = it.items.length ∧ ∃ (vs : List V) (acc : List MP.D) (m : List Addr) (S : Sto), H' D = some (.lst vs) ∧ Ext m1 H1 m (hid H' D) ∧ SR X.K m (hid H' D) S ∧ VRs X.K m (hid H' D) vs acc ∧ acc.length ≤ i + 1 ∧
            ∃ ys S2, compG it.chk g tt te (wipeE ρ ix) (it.items.drop (i + 1)) S = .ok ys S2 ∧ compG it.chk g tt te (wipeE ρ ix) it.items S1 = .ok (acc ++ ys) S2, fun H' z => ⟨k - 1, by omega, z⟩, fun v H' hy => ?_⟩
          -- the turn's heap, D hidden
          obtain ⟨w, e3, hD', x3, hall⟩ : VR X.K m2 (hid H' D) v it.items[i] ∧ Ext m2 (hid H D) m2 (hid H' D) ∧ H' D = some (.lst vs) ∧ SR X.K m2 (hid H' D) S2 ∧ ∀ a xs, hid H' D a = some (.tup xs) → H' a = some (.tup xs) := by
            rcases yy v H' hy with ⟨rfl, w⟩ | ⟨T, ws, ds, hT, rfl, rfl, ed, rw'⟩
            · exact ⟨w, Ext.refl, hHD, x2, fun a xs z => sup_hid a _ z⟩
            · have hTD : T ≠ D := fun z => by rw [z, hHD] at hT; cases hT
              have hTh : hid H D T = none := by rw [hid_ne hTD]; exact hT
              have eh : hid (upd H T (.tup ws)) D = upd (hid H D) T (.tup ws) := by
                funext b
                by_cases hb : b = D
                · rw [hb, hid_same, upd_ne hTD.symm, hid_same]
                · rw [hid_ne hb]
                  by_cases hb2 : b = T
                  · rw [hb2, upd_same, upd_same]
                  · rw [upd_ne hb2, upd_ne hb2, hid_ne hb]
              rw [eh]
              refine ⟨?_, Ext.fresh hTh, by rw [upd_ne hTD.symm]; exact hHD, x2.fresh hTh, fun a xs z => ?_⟩
              · rw [ed]
                exact .tup upd_same (rw'.ext (Ext.fresh hTh) x2.muts)
              · rw [← eh] at z
                exact sup_hid a _ z
          refine ⟨m2, hid H' D, wipeE ρ ix, it.items[i], ρ1, hall, w, er2.ext e3 x2.muts, (er2.len), hg1, fun σ2 er3 hl2 hl3 hj => ⟨wipe_eq hl3 (fun j hjx => ?_) |>.trans ?_, ?_⟩⟩
          · exact hj j hjx
          · -- wiped twice
            exact wipe_eq (wipe_length σ ix) fun j hj => wipe_out hj
          · refine ⟨D, vs, hD', m2, ρ1, S2, x3, er3, ?_⟩
            cases qt : tt ρ1 S2 with
            | bad => rw [qt] at c1; cases c1
            | exc _ _ _ => rw [qt] at c1; cases c1
            | ok b S4 =>
              rw [qt] at c1
              dsimp only [noex, R.bind] at c1
              refine ⟨b, S4, rfl, fun H4 m4 e4 x4 hn4 => ?_⟩
              have r4 := (r2.ext e3 x2.muts).ext e4 x3.muts
              cases b with
              | true =>
                rw [if_pos rfl] at c1
                refine iteT ?_
                refine ⟨D, vs, upd_same, m4, ρ1, S4, by rw [hid_upd hn4]; exact x4, by rw [hid_upd hn4]; exact er3.ext e4 x3.muts, ?_⟩
                cases qe : te ρ1 S4 with
                | bad => rw [qe] at c1; cases c1
                | exc _ _ _ => rw [qe] at c1; cases c1
                | ok y S5 =>
                  rw [qe] at c1
                  dsimp only [noex, R.bind] at c1
                  refine ⟨y, S5, rfl, fun v5 H5 qv5 hn5 => ?_⟩
                  rw [hid_upd hn4] at qv5
                  obtain ⟨m5, e5, x5, w5⟩ := qv5
                  have r5 := r4.ext e5 x4.muts
                  refine ⟨vs, upd_same, ?_, by omega, vs ++ [v5], acc ++ [y], m5, S5, upd_same, ?_, ?_, ?_, by simp; omega, ?_⟩
                  · rw [r5.length]
                    exact Nat.lt_of_le_of_lt hacc (Nat.lt_of_lt_of_le hi hz)
                  · rw [upd_upd, hid_upd hn5]; exact ((e2.trans e3).trans e4).trans e5
                  · rw [upd_upd, hid_upd hn5]; exact x5
                  · rw [upd_upd, hid_upd hn5]; exact r5.append (.cons w5 .nil)
                  · cases qr : compG it.chk g tt te (wipeE ρ ix) (it.items.drop (i + 1)) S5 with
                    | bad => rw [qr] at c1; cases c1
                    | exc _ _ _ => rw [qr] at c1; cases c1
                    | ok zs S6 =>
                      rw [qr] at c1
                      cases c1
                      exact ⟨zs, _, rfl, by rw [c2]; simp⟩
              | false =>
                rw [if_neg Bool.false_ne_true] at c1
                refine iteF ?_
                exact ⟨by omega, vs, acc, m4, S4, upd_same, by rw [hid_upd hn4]; exact (e2.trans e3).trans e4, by rw [hid_upd hn4]; exact x4, by rw [hid_upd hn4]; exact r4, by omega, ys, S3, c1, c2⟩
        · cases c1
      · cases c1
    · have hd : it.items.drop i = [] := List.drop_eq_nil_of_le (by omega)
      rw [hd] at c1
      dsimp only [compG] at c1
      split at c1
      · rename_i hchk
        cases c1
        obtain ⟨_, y2⟩ := yl m2 (hid H D) S2 H e2 x2 hchk sup_hid
        refine .inl ⟨y2 i (by omega), ?_⟩
        have := hQ _ _ c2 D vs m2 (hid H D) (e1.trans e2) x2 hid_same (by simpa using r2)
        rw [upd_hid hHD] at this
        exact this
      · cases c1
section
variable {X : Cx} {elt tg iter : Expr} {ifs : List Expr} {scope : Scope} {own : List (Str × Nat)} {pos : Pos} {li : LI} {g : GT} {tt : LT} {te : LE}
/-- the tests of a comprehension -/
structure PTsL (X : Cx) (ifs : List Expr) (l : LT) : Prop where
  pts : PTs X ifs (tT0 X.K l)
theorem ptsl_nil : PTsL X [] tYesL := ⟨⟨fun pins s σ H Q I ⟨m, ρ, S, x, er, b, S', q, k⟩ => by
  cases q
  exact wpAny_tests_nil ⟨H, I, k H m Ext.refl x⟩⟩⟩
theorem ptsl_one {c : Expr} {t : LT} (h : PTL X c t) : PTsL X [c] t := ⟨pts_one h.pt⟩
theorem pel_lc (hc : X.calm = true) (hN : X.N.Nodup) (hi : PIL X tg iter li) (ok : BlkOk X.N X.env.scope scope own)
    (hg : ∀ (s : Shared) (H : Hp) (C : Addr) (cl : List (Str × Addr)) (fp : List Addr), PGL (X.blk s H scope (compEnvC scope cl C X.env) fp) tg (own.map (·.2)) g) (ht : ∀ (s : Shared) (H : Hp) (C : Addr) (cl : List (Str × Addr)) (fp : List Addr), PTsL (X.blk s H scope (compEnvC scope cl C X.env) fp) ifs tt)
    (he : ∀ (s : Shared) (H : Hp) (C : Addr) (cl : List (Str × Addr)) (fp : List Addr), PEL (X.blk s H scope (compEnvC scope cl C X.env) fp) elt te) (hs : ∀ x, foldedSetIterable iter X.env x = pure x := by intro _; rfl) :
    PEL X (.ListComp elt [⟨tg, iter, ifs, 0⟩] scope pos) (lComp li (own.map (·.2)) g tt te) :=
  .of_pe (pe_lc (g := tGL X.K (own.map fun q : Str × Nat => q.2) g) (tt := tHideT (tT0 X.K tt)) (te := tHide (tL0 X.K te)) hc hN hi ok hg (fun s H C cl fp => pts_hide (ht s H C cl fp).pts) (fun s H C cl fp => pe_hide (he s H C cl fp).pe) hs) fun σ H m ρ S x er hp =>
    comp_read x er (hope_seq hp) fun ys S2 q p vs m2 H2 e x2 hn r => ⟨.lst ys, S2, by unfold lComp; rw [q]; rfl, m2, e.trans (Ext.fresh hn), x2.fresh hn, vr_newLst x2 hn r⟩
/-- name = [..], the name a local -/
theorem psl_setLc {i : Nat} {y : Str} {py spos : Pos} {lv : LE} (hN : X.N.Nodup) (hyl : X.env.scope.names.lookup y = some .local) (hsw : swapsWith (.ListComp elt [⟨tg, iter, ifs, 0⟩] scope pos) (some (.Name y py)) spos.line X.env = pure true) (hc : X.calm = true) (hi : PIL X tg iter li) (ok : BlkOk X.N X.env.scope scope own)
    (hlv : lv = lComp li (own.map (·.2)) g tt te ∨ lv = lCompN li (own.map (·.2)) g tt te)
    (hg : ∀ (s : Shared) (H : Hp) (C : Addr) (cl : List (Str × Addr)) (fp : List Addr), PGL (X.blk s H scope (compEnvC scope cl C X.env) fp) tg (own.map (·.2)) g) (ht : ∀ (s : Shared) (H : Hp) (C : Addr) (cl : List (Str × Addr)) (fp : List Addr), PTsL (X.blk s H scope (compEnvC scope cl C X.env) fp) ifs tt)
    (he : ∀ (s : Shared) (H : Hp) (C : Addr) (cl : List (Str × Addr)) (fp : List Addr), PEL (X.blk s H scope (compEnvC scope cl C X.env) fp) elt te) (hy : X.N[i]? = some y := by rfl) (hs : ∀ x, foldedSetIterable iter X.env x = pure x := by intro _; rfl) :
    PSL X (.Assign [.Name y py] (.ListComp elt [⟨tg, iter, ifs, 0⟩] scope pos) spos) (lSet i lv) := by
  refine ps_imp (ps_setLc (g := tGL X.K (own.map fun q : Str × Nat => q.2) g) (tt := tHideT (tT0 X.K tt)) (te := tHide (tL0 X.K te)) hc hN hy hyl hsw hi ok hg (fun s H C cl fp => pts_hide (ht s H C cl fp).pts) (fun s H C cl fp => pe_hide (he s H C cl fp).pe) hs) fun D σ H ⟨m, ρ, S, x, er, hl, h⟩ => ?_
  have h' : HS X D m H (liftX ρ (lv ρ S) fun d S1 => .ok (.nx (ρ.set i (some d))) S1) := h
  have hp := HS.hope h' er hl x
  have hpc : Hope X σ m H (compL li (own.map (·.2)) g tt te ρ S) := by
    rcases hlv with z | z <;> (rw [z] at hp; exact hope_seq hp)
  refine comp_read x er hpc fun ys S2 q p vs m2 H2 e x2 hn r => ?_
  rcases hlv with z | z
  · have q' : lv ρ S = .ok (.lst ys) S2 := by rw [z]; unfold lComp; rw [q]; rfl
    rw [q'] at h'
    have e' := e.trans (Ext.fresh (o := .lst vs) hn)
    exact h'.nx _ _ rfl _ _ ⟨m2, e', x2.fresh hn, (er.ext e' x.muts).set (vr_newLst x2 hn r), by simp [hl]⟩
  · have q' : lv ρ S = .ok (.ref S2.length) (S2 ++ [.lst ys]) := by rw [z]; unfold lCompN; rw [q]; rfl
    rw [q'] at h'
    obtain ⟨m3, e3, x3, w3⟩ := qv_newL x2 hn r
    have e' := e.trans e3
    exact h'.nx _ _ rfl _ _ ⟨m3, e', x3, (er.ext e' x.muts).set w3, by simp [hl]⟩
end
end MP

namespace MP
open PySem PySem.Spec PyProof.Rows L2

section
variable {K : PySem.W.Frag} {m : List Addr} {H : Hp} {S : Sto}
theorem SR.write (x : SR K m H S) {i : Nat} {a : Addr} {o' : HO} {ob' : O} (hi : m[i]? = some a) (r : Ext m H m (upd H a o') → OR K m (upd H a o') a ob') : Ext m H m (upd H a o') ∧ SR K m (upd H a o') (S.set i ob') := by
  have hm : a ∈ m := List.mem_iff_getElem?.mpr ⟨i, hi⟩
  have e : Ext m H m (upd H a o') := ⟨⟨[], by simp⟩, fun b h => .inl h, fun b u n q => by rw [upd_ne (fun z : b = a => n (by rw [z]; exact hm))]; exact q⟩
  refine ⟨e, x.nd, by simp [x.len], fun j b u h1 h2 => ?_⟩
  by_cases hj : i = j
  · subst hj
    rw [hi] at h1
    cases h1
    have hl : i < S.length := x.len ▸ (List.getElem?_eq_some_iff.mp hi).1
    rw [List.getElem?_set_self hl] at h2
    cases h2
    exact r e
  · rw [List.getElem?_set_ne hj] at h2
    exact (x.at_ j b u h1 h2).ext e x.muts (upd_ne fun z => hj (nodup_get x.nd hi (z ▸ h1)))
theorem VR.ref_at (x : SR K m H S) {v : V} {i : Nat} {ob : O} (r : VR K m H v (.ref i)) (q : S[i]? = some ob) : ∃ a, v = .ref a ∧ m[i]? = some a ∧ OR K m H a ob := by
  cases r with
  | @ref i a h => exact ⟨a, rfl, h, x.at_ i a ob h q⟩
end
def putD (f : Str) (v : D) : List (Str × D) → List (Str × D)
  | [] => [(f, v)]
  | (g, x) :: r => if g = f then (g, v) :: r else (g, x) :: putD f v r
theorem VFs.put {K : PySem.W.Frag} {m : List Addr} {H : Hp} {f : Str} {v : V} {d : D} (h : VR K m H v d) : ∀ {fs : List (Str × V)} {gs : List (Str × D)}, VFs K m H fs gs → VFs K m H (putF f v fs) (putD f d gs)
  | _, _, .nil => .cons h .nil
  | _, _, @VFs.cons _ _ _ g w e vs ds q r => by
    unfold putF putD
    by_cases z : g = f
    · rw [if_pos z, if_pos z]; exact .cons h r
    · rw [if_neg z, if_neg z]; exact .cons q (VFs.put h r)
theorem VFs.length {K : PySem.W.Frag} {m : List Addr} {H : Hp} {fs : List (Str × V)} {gs : List (Str × D)} : VFs K m H fs gs → fs.length = gs.length
  | .nil => rfl
  | .cons _ r => by simp [r.length]
section
variable {X : Cx} {e o i c : Expr} {le lo li : LE} {t : LA} {pos pos' : Pos} {x y f : Str} {C : Addr}
/-- targets = e -/
def lAsg (g : GT) (le : LE) : LS := fun ρ S => liftX ρ (le ρ S) fun d S1 => match g d ρ with
  | some ρ1 => .ok (.nx ρ1) S1
  | none => .bad
theorem psl_asg {tg : Expr} {ix : List Nat} {g : GT} (he : PEL X e le) (hg : PGL X tg ix g) (hs : swapsWithSole [tg] e pos.line X.env = pure false := by rfl) (hw : swappedStores [tg] e X.env = pure none := by rfl)
    (h1 : (assignEach [tg] X.env).map (·.2) = [assign tg X.env] := by rfl) : PSL X (.Assign [tg] e pos) (lAsg g le) := by
  refine ⟨fun pins s σ H D I ⟨m, ρ, S, x, er, hl, h⟩ => ?_⟩
  refine wpAny_Assign_stores (expr_in he I x er hl h fun d S1 q v u s1 H1 m1 I1 rv e1 x1 w er1 h2 => ?_) hs hw
  rw [h1]
  cases hgd : g d ρ with
  | none => rw [hgd] at h2; obtain ⟨fl, S', q⟩ := h2.ok; cases q
  | some ρ1 =>
    rw [hgd] at h2
    exact thn (hg.run pins s1 σ H1 v u (fun σ' H' => D.nx σ' H') I1 rv ⟨m1, H1, ρ, d, ρ1, fun _ _ z => z, w, er1, hl, hgd, fun σ' er' hl' _ _ => h2.nx ρ1 S1 rfl σ' H1 (sv_same x1 er' hl')⟩) fun _ s2 q => q
/-- a, b = e1, e2 with plain local names -/
def tAX (X : Cx) (t : LA) : TA := fun σ H Q => ∃ m ρ S, SR X.K m H S ∧ ER X.K m H σ ρ ∧ Hope X σ m H (t ρ S) ∧ ∀ ds S', t ρ S = .ok ds S' → ∀ vs H' m', Ext m H m' H' → SR X.K m' H' S' → VRs X.K m' H' vs ds → Q vs H'
theorem PAL.pa {es : List Expr} (h : PAL X es t) : PA X es (tAX X t) := ⟨fun pos pins s σ H Q I ⟨m, ρ, S, x, er, hp, k⟩ =>
  thn (h.run pos pins s σ H m ρ S I x er hp) fun us s' ⟨ds, S', vs, H', m', q, I', rv, e', x', w⟩ => ⟨vs, H', I', rv, k ds S' q vs H' m' e' x' w⟩⟩
def lPar (i j : Nat) (t : LA) : LS := fun ρ S => liftX ρ (t ρ S) fun ds S1 => match ds with
  | [a, b] => .ok (.nx ((ρ.set i (some a)).set j (some b))) S1
  | _ => .bad
theorem psl_par {i j : Nat} {a b : Expr} {px py pt : Pos} {kt k2 : Nat} {pt2 : Pos} (hc : X.calm = true) (hN : X.N.Nodup) (ha : PAL X [a, b] t) (hi : X.N[i]? = some x := by rfl) (hj : X.N[j]? = some y := by rfl) (hij : i ≠ j := by decide)
    (hx : X.env.scope.names.lookup x = some .local := by rfl) (hy : X.env.scope.names.lookup y = some .local := by rfl)
    (hw : swappedStores [.Tuple [.Name x px, .Name y py] kt pt] (.Tuple [a, b] k2 pt2) X.env = pure (some [x, y]) := by rfl)
    (hs : swapsWithSole [.Tuple [.Name x px, .Name y py] kt pt] (.Tuple [a, b] k2 pt2) pos.line X.env = pure false := by rfl) :
    PSL X (.Assign [.Tuple [.Name x px, .Name y py] kt pt] (.Tuple [a, b] k2 pt2) pos) (lPar i j t) := by
  refine ps_imp (ps_par hc hN hi hj hij hx hy ha.pa hw hs) fun D σ H ⟨m, ρ, S, x0, er, hl, h⟩ => ?_
  have h' : HS X D m H (liftX ρ (t ρ S) fun ds S1 => match ds with
    | [a, b] => .ok (.nx ((ρ.set i (some a)).set j (some b))) S1
    | _ => .bad) := h
  refine ⟨m, ρ, S, x0, er, HS.hope h' er hl x0, fun ds S1 q vs H1 m1 e1 x1 w => ?_⟩
  rw [q] at h'
  have h2 := HS.ext h' e1
  cases w with
  | nil => obtain ⟨fl, S', q⟩ := h2.ok; cases q
  | cons w1 w2 =>
    cases w2 with
    | nil => obtain ⟨fl, S', q⟩ := h2.ok; cases q
    | cons w2 w3 =>
      cases w3 with
      | cons _ _ => obtain ⟨fl, S', q⟩ := h2.ok; cases q
      | nil =>
        have er1 := er.ext e1 x0.muts
        exact ⟨_, _, rfl, h2.nx _ S1 rfl _ H1 (sv_same x1 ((er1.set w1).set w2) (by simp [hl]))⟩
/-- o.f = e, o an object of the store -/
def stFld (C : Addr) (f : Str) (S : Sto) (r d : D) : Option Sto := match r with
  | .ref i => match S[i]? with
    | some (.ins C' fs) => if C' = C ∧ fs.length < 1000 then some (S.set i (.ins C (putD f d fs))) else none
    | _ => none
  | _ => none
def liftS (o : Option Sto) (ρ : Ev) : R Fl := match o with
  | some S => .ok (.nx ρ) S
  | none => .bad
def lStF (C : Addr) (f : Str) (lo le : LE) : LS := fun ρ S => liftX ρ (le ρ S) fun d S1 => liftX ρ (lo ρ S1) fun r S2 => liftS (stFld C f S2 r d) ρ
theorem psl_fld (cl : Cls X.K C) (na : NoAttr X.K C f) (ho : PEL X o lo) (he : PEL X e le) (hs : swapsWith e (some (.Attribute o f pos')) pos.line X.env = pure false := by rfl) : PSL X (.Assign [.Attribute o f pos'] e pos) (lStF C f lo le) := by
  refine ⟨fun pins s σ H D I ⟨m, ρ, S, x, er, hl, h⟩ => ?_⟩
  refine plainObj_wpAny_Assign_Attribute (expr_in he I x er hl h fun d S1 q v u s1 H1 m1 I1 rv e1 x1 w er1 h1 => expr_in ho I1 x1 er1 hl h1 fun r S2 q2 v2 u2 s2 H2 m2 I2 rv2 e2 x2 w2 er2 h2 => ?_) hs
  cases q3 : stFld C f S2 r d with
  | none => rw [q3] at h2; obtain ⟨fl, S', q⟩ := h2.ok; cases q
  | some S3 =>
    rw [q3] at h2
    unfold stFld at q3
    split at q3
    · rename_i i
      split at q3
      · rename_i C' fs q4
        split at q3
        · rename_i hz
          obtain ⟨hC, hz⟩ := hz
          subst hC
          cases q3
          obtain ⟨a, rfl, ha, orr⟩ := VR.ref_at x2 w2 q4
          obtain rfl : u2 = Value.ref a := rv2
          cases orr with
          | @ins _ dx fs' gs hh rr =>
            refine setattr_ok I2 hh cl na (by rw [rr.length]; exact hz) rv fun s3 I3 => ?_
            obtain ⟨e3, x3⟩ := x2.write (o' := .ins C' dx (putF f v fs')) (ob' := .ins C' (putD f d fs)) ha fun e => .ins upd_same ((rr.put (w.ext e2 x1.muts)).ext e x2.muts)
            exact ⟨σ, _, I3, h2.nx ρ _ rfl σ _ ⟨m2, e3, x3, er2.ext e3 x2.muts, hl⟩⟩
        · cases q3
      · cases q3
    · cases q3
/-- o[i] = e -/
structure PSetL (X : Cx) (g : Sto → D → D → D → Option Sto) : Prop where
  run : ∀ (pins : List (Addr × Obj)) (s : Shared) (σ : L2.St) (H : Hp) (m : List Addr) (S S' : Sto) (o i v : V) (d1 d2 d3 : D) (ov iv u : Value), Inv X pins σ H s → SR X.K m H S → VR X.K m H o d1 → VR X.K m H i d2 → VR X.K m H v d3 → RelV o ov → RelV i iv → RelV v u → g S d1 d2 d3 = some S' →
    wpAny (model X.prog X.w) X.A (setItem ov iv u) (fun _ s' => ∃ H' m', Inv X pins σ H' s' ∧ Ext m H m' H' ∧ SR X.K m' H' S') X.xe s
def stSeq (S : Sto) (r i d : D) : Option Sto := match r, i with
  | .ref j, .int k => match S[j]? with
    | some (.lst xs) => (ixN xs.length k).map fun n => S.set j (.lst (xs.set n d))
    | _ => none
  | _, _ => none
theorem psetl_seq : PSetL X stSeq := ⟨fun pins s σ H m S S' o i v d1 d2 d3 ov iv u I x r1 r2 r3 e1 e2 e3 q => by
  unfold stSeq at q
  split at q
  · rename_i j k
    split at q
    · rename_i xs q1
      cases q2 : ixN xs.length k with
      | none => rw [q2] at q; cases q
      | some n =>
        rw [q2] at q
        cases q
        obtain ⟨a, rfl, ha, orr⟩ := VR.ref_at x r1 q1
        cases r2
        cases orr with
        | @lst vs _ hh rr =>
          obtain ⟨z1, z2⟩ := x.write (o' := .lst (vs.set n v)) (ob' := .lst (xs.set n d3)) ha fun e => .lst upd_same ((rr.set r3 n).ext e x.muts)
          exact thn (set_list pins s σ H _ _ v ov iv u (fun H' => H' = upd H a (.lst (vs.set n v))) I e1 e2 e3 ⟨a, vs, k, n, rfl, rfl, hh, by rw [rr.length]; exact q2, rfl⟩) fun _ s' ⟨H', I', eH⟩ => by
            subst eH
            exact ⟨_, m, I', z1, z2⟩
    · cases q
  · cases q⟩
def lStS (g : Sto → D → D → D → Option Sto) (lo li le : LE) : LS := fun ρ S => liftX ρ (le ρ S) fun d S1 => liftX ρ (lo ρ S1) fun r S2 => liftX ρ (li ρ S2) fun k S3 => liftS (g S3 r k d) ρ
theorem psl_sub {g : Sto → D → D → D → Option Sto} (hg : PSetL X g) (ho : PEL X o lo) (hi : PEL X i li) (he : PEL X e le) (hs : swapsWith e (some (.Subscript o i pos')) pos.line X.env = pure false := by rfl) : PSL X (.Assign [.Subscript o i pos'] e pos) (lStS g lo li le) := by
  refine ⟨fun pins s σ H D I ⟨m, ρ, S, x, er, hl, h⟩ => ?_⟩
  refine wpAny_Assign_Subscript (expr_in he I x er hl h fun d S1 q v u s1 H1 m1 I1 rv e1 x1 w er1 h1 => expr_in ho I1 x1 er1 hl h1 fun r S2 q2 v2 u2 s2 H2 m2 I2 rv2 e2 x2 w2 er2 h2 => expr_in hi I2 x2 er2 hl h2 fun k S3 q3 v3 u3 s3 H3 m3 I3 rv3 e3 x3 w3 er3 h3 => ?_) hs
  cases q4 : g S3 r k d with
  | none => rw [q4] at h3; obtain ⟨fl, S', q⟩ := h3.ok; cases q
  | some S4 =>
    rw [q4] at h3
    exact thn (hg.run pins s3 σ H3 m3 S3 S4 v2 v3 v r k d u2 u3 u I3 x3 (w2.ext e3 x2.muts) w3 ((w.ext e2 x1.muts).ext e3 x2.muts) rv2 rv3 rv q4) fun _ s4 ⟨H4, m4, I4, e4, x4⟩ => ⟨σ, H4, I4, h3.nx ρ S4 rfl σ H4 ⟨m4, e4, x4, er3.ext e4 x3.muts, hl⟩⟩
/-- name op= e -/
def lAug (i : Nat) (g : G2) (le : LE) : LS := fun ρ S => match ρ[i]? with
  | some (some d0) => liftX ρ (le ρ S) fun d S1 => match g S1 d0 d with
    | some r => .ok (.nx (ρ.set i (some r))) S1
    | none => .bad
  | _ => .bad
end

/-! ### a def keeps its promise -/
def fin : R Fl → R D
  | .ok (.nx _) S => .ok .non S
  | .ok (.rt d) S => .ok d S
  | .ok (.ex C fs _) S => .exc C fs S
  | _ => .bad
def bodyF (n : Nat) (lb : LS) : F := fun ds S => fin (lb (ds.map some ++ List.replicate (n - ds.length) none) S)
theorem er_start {K : PySem.W.Frag} {m : List Addr} {H : Hp} {vs : List V} {ds : List D} {n : Nat} (r : VRs K m H vs ds) : ER K m H (vs.map some ++ List.replicate (n - vs.length) none) (ds.map some ++ List.replicate (n - ds.length) none) := by
  refine ⟨fun i d h => ?_, by simp [r.length]⟩
  have hi : i < ds.length := by
    by_cases z : i < ds.length
    · exact z
    · rw [List.getElem?_append_right (by simp; omega)] at h
      obtain ⟨_, h2⟩ := List.getElem?_eq_some_iff.mp h
      simp at h2
  rw [List.getElem?_append_left (by simpa using hi), List.getElem?_map] at h
  cases q : ds[i]? with
  | none => rw [q] at h; cases h
  | some d' =>
    rw [q] at h
    cases h
    obtain ⟨v, h1, h2⟩ := r.getr q
    refine ⟨v, ?_, h2⟩
    rw [List.getElem?_append_left (by rw [List.length_map, r.length]; exact hi), List.getElem?_map, h1]
    rfl
/-- as L2.fn_of, with the guards -/
theorem fnG_of {CX : CXT} {P : Program} {w : World} {K : PySem.W.Frag} {mg : Str → Option Value} {base : Heap} {k : Nat} {f : Addr} {name qual : Str} {params : Arguments} {body : List Stmt} {scope : Scope} {dV kV doc pm cdv ct oc : Value} {an od : Option Addr}
    {osl : Array (Option Value)} {N ps : List Str} {sp : Sp} (lk : K.lookup f = some ⟨oc, od, .func (PySem.W.fnOf name qual params body scope dV kV doc pm an cdv ct), osl⟩) (hcd : PySem.W.codeIn K cdv qual = true) (S : FnScope N ps scope)
    (len : ∀ vs H Q E, sp vs H Q E → vs.length = ps.length)
    (hbody : ∀ (A : Around) (outer : List Env) (s : Shared) (H : Hp) (vs : List V) (Q : VK) (E : XK), MP.Room k (A.deeper (envOfC qual scope s.heap.objs.size f cdv)) → sp vs H Q E →
      ∃ t, PSs (cxOf CX P w K mg base N qual scope f cdv A outer s H E) body t ∧ t { nx := fun _ H' => Q .non H', rt := Q } (start N vs) H) :
    MP.FnOk P w K mg base CX (k + 1) f (PySem.W.fnOf name qual params body scope dV kV doc pm an cdv ct) ps sp := by
  refine ⟨len, fun A outer s H args us vs Q E hr e0 hb r hsp => ?_⟩
  have hl := len _ _ _ _ hsp
  have KX : K.In s.heap := e0.mod.kin.keeps fun b o e => (e0.bs b o e).1
  have lim : s.heap.NoLimit := e0.mod.nolimit.keeps fun b o e => (e0.bs b o e).1
  have hkind : ∀ y ∈ ps.zip us, scope.names.lookup y.1 = some .local ∨ (scope.names.lookup y.1 = some .cell ∧ ((cellsFrom (s.heap.objs.size + 1) scope.names []).lookup y.1).isSome = true) := fun ⟨n, v⟩ hy => by
    rcases S.par n (List.of_mem_zip hy).1 with q | q
    · exact .inl q
    · exact .inr ⟨q, PySem.W.cellsFrom_some _ _ _ (.inl q)⟩
  refine codeAny_call_function hr.depth (KX _ _ lk) rfl S.co S.gen rfl (PySem.W.codeRec_of KX hcd) (hb _ _ _ _ ?_)
  refine wpAny_newFunctionEnv_cells S.kind hkind fun env he s1 x => ?_
  subst he
  refine ⟨lim.keeps x.toInCall.keep, codeAny_func ?_⟩
  obtain ⟨t, ht, hq⟩ := hbody A outer s H vs Q E (hr.deeper _) hsp
  have I : Inv (cxOf CX P w K mg base N qual scope f cdv A outer s H E) [] (start N vs) H s1 := inv_start S hr.hd e0 hl r x
  refine wpAny_mono (ht.run [] s1 (start N vs) H _ I hq) (fun fl s' hs => ?_) fun e s' hs => hs
  have fin : ∀ {σ' : L2.St} {H' : Hp} {v : V} {u : Value}, Inv (cxOf CX P w K mg base N qual scope f cdv A outer s H E) [] σ' H' s' → RelV v u → Q v H' → CE outer P w H s Q u s' :=
    fun {σ' H' v u} J rv q => ⟨v, H', J.os, J.bare, J.base, J.hok, rv, q⟩
  cases fl with
  | ret u =>
    obtain ⟨v, σ', H', J, rv, q⟩ := hs
    exact fin J rv q
  | next =>
    obtain ⟨σ', H', J, q⟩ := hs
    exact fin (v := V.non) (u := Value.none) J rfl q
  | brk =>
    obtain ⟨_, _, _, q⟩ := hs
    exact False.elim q
  | cont =>
    obtain ⟨_, _, _, q⟩ := hs
    exact False.elim q
section
variable {P : Program} {w : World} {K : PySem.W.Frag} {mg : Str → Option Value} {base : Heap}
theorem Fun.okG {x qual : Str} {st : Stmt} {f : Addr} {fd : FuncData} {N ps : List Str} {k : Nat} {sp : Sp} (F : Fun K x qual st f fd) (S : FnScope N ps (defScope st)) (len : ∀ vs H Q E, sp vs H Q E → vs.length = ps.length)
    (hbody : ∀ (cdv : Value) (A : Around) (outer : List Env) (s : Shared) (H : Hp) (vs : List V) (Q : VK) (E : XK), MP.Room k (A.deeper (envOfC qual (defScope st) s.heap.objs.size f cdv)) → sp vs H Q E →
      ∃ t, PSs (cxOf (L2.CX P w) P w K mg base N qual (defScope st) f cdv A outer s H E) (defBody st) t ∧ t { nx := fun _ H' => Q .non H', rt := Q } (L2.start N vs) H) : MP.FnOk P w K mg base (L2.CX P w) (k + 1) f fd ps sp := by
  obtain ⟨oc, od, kV, doc, pm, an, cdv, ct, osl, rfl, lk, hcd⟩ := F.ex
  exact fnG_of lk hcd S len fun A outer s H vs Q E hr hsp => hbody cdv A outer s H vs Q E hr hsp
abbrev cxL (P : Program) (w : World) (K : PySem.W.Frag) (mg : Str → Option Value) (base : Heap) (N : List Str) (qual : Str) (sc : Scope) (f : Addr) (cdv : Value) (A : Around) (outer : List Env) (s : Shared) (H : Hp) (E : XK) : Cx := cxOf (L2.CX P w) P w K mg base N qual sc f cdv A outer s H E
theorem Fun.okL {x qual : Str} {st : Stmt} {f : Addr} {fd : FuncData} {N ps : List Str} {k : Nat} {lb : LS} (Fn : Fun K x qual st f fd) (S : FnScope N ps (defScope st))
    (hb : ∀ (cdv : Value) (A : Around) (outer : List Env) (s : Shared) (H : Hp) (E : XK), Room k (A.deeper (envOfC qual (defScope st) s.heap.objs.size f cdv)) → PSsL (cxL P w K mg base N qual (defScope st) f cdv A outer s H E) (defBody st) lb) :
    FnL P w K mg base (k + 1) f fd ps (bodyF N.length lb) := by
  refine Fun.okG Fn S (fun vs H Q E h => h.1) fun cdv A outer s H vs Q E hr h => ⟨_, hb cdv A outer s H E hr, ?_⟩
  obtain ⟨hl, m, S0, ds, x0, r, nb, q1, q2⟩ := h
  refine ⟨m, ds.map some ++ List.replicate (N.length - ds.length) none, S0, x0, ?_, ?_, ?_⟩
  · exact er_start r
  · simp [L2.start, r.length]
  · have hB : ∀ a, bodyF N.length lb ds S0 = a → fin (lb (ds.map some ++ List.replicate (N.length - ds.length) none) S0) = a := fun a h => h
    generalize hA : lb (ds.map some ++ List.replicate (N.length - ds.length) none) S0 = A0 at hB
    have hb0 : bodyF N.length lb ds S0 = fin A0 := by unfold bodyF; rw [hA]
    rw [hb0] at nb q1 q2
    refine ⟨?_, fun ρ' S' e σ' H' ⟨m', e', x', er', _⟩ => ?_, fun d S' e v H' z => ?_, fun ρ' S' e => ?_, fun ρ' S' e => ?_, fun C fs ρ' S' e u s' z => ?_⟩
    · cases A0 with
      | bad => exact absurd rfl nb
      | exc C fs S' => exact absurd rfl nb
      | ok fl S' => exact ⟨fl, S', rfl⟩
    · subst e
      exact q1 .non S' rfl .non H' ⟨m', e', x', .non⟩
    · subst e
      exact q1 d S' rfl v H' z
    · subst e
      exact absurd rfl nb
    · subst e
      exact absurd rfl nb
    · subst e
      refine takes_of (E := E) rfl rfl rfl rfl u s' (XE.imp z fun cls d σ' H' w => ?_)
      obtain ⟨w1, m', w2, w4, w5, _⟩ := w
      exact q2 C fs S' rfl cls d H' ⟨w1, m', w2, w4, w5⟩
end
end MP

namespace MP
open PySem PySem.Spec PyProof.Rows L2

section
variable {X : Cx}
/-! ### ints -/
def gSub : G2 := g2I fun i j => some (.int (i - j))
theorem opl_sub : OpL X (binaryOp .Sub) gSub := opl_int0 op_sub fun i j _ _ _ => .int _
def gMulI : G2 := g2I fun i j => if i.natAbs.log2 + j.natAbs.log2 < 1000000 then some (.int (i * j)) else none
theorem opl_mulI : OpL X (binaryOp .Mult) gMulI := opl_int op_mulW fun i j d e => by
  split at e
  · cases e; exact ⟨‹_›, fun _ _ _ => .int _⟩
  · cases e
def gDiv : G2 := g2I fun i j => if 0 < j ∧ j.natAbs.log2 < 9000 then some (.int (i / j)) else none
theorem opl_div : OpL X (binaryOp .FloorDiv) gDiv := opl_int op_fdivW fun i j d e => by
  split at e
  · cases e; exact ⟨‹_›, fun _ _ _ => .int _⟩
  · cases e
def gMod : G2 := g2I fun i j => if 0 < j then some (.int (i % j)) else none
theorem opl_mod : OpL X (binaryOp .Mod) gMod := opl_int op_mod fun i j d e => by
  split at e
  · cases e; exact ⟨‹_›, fun _ _ _ => .int _⟩
  · cases e
def gPow : G2 := g2I fun i j => if 0 ≤ j ∧ j ≤ 1000000 ∧ i.natAbs < 2 ^ 64 then some (.int (i ^ j.toNat)) else none
theorem opl_pow : OpL X (binaryOp .Pow) gPow := opl_int op_pow fun i j d e => by
  split at e
  · cases e; exact ⟨‹_›, fun _ _ _ => .int _⟩
  · cases e
def gIAdd : G2 := g2I fun i j => some (.int (i + j))
def gISub : G2 := g2I fun i j => some (.int (i - j))
def gLtI : G2 := g2I fun i j => some (.bl (decide (i < j)))
def gLeI : G2 := g2I fun i j => some (.bl (decide (i ≤ j)))
def gGtI : G2 := g2I fun i j => some (.bl (decide (j < i)))
def gGeI : G2 := g2I fun i j => some (.bl (decide (j ≤ i)))
theorem opl_ltI : OpL X (compareOp .Lt) gLtI := opl_int0 op_lt fun i j _ _ _ => .bl _
theorem opl_gtI : OpL X (compareOp .Gt) gGtI := opl_int0 op_gt fun i j _ _ _ => .bl _
theorem opl_geI : OpL X (compareOp .GtE) gGeI := opl_int0 op_ge fun i j _ _ _ => .bl _
def gLtS : G2 := g2S fun i j => some (.bl (decide (i.cps.toList < j.cps.toList)))
theorem opl_ltS : OpL X (compareOp .Lt) gLtS := .of op_lt_str fun H m S x y dx dy d q rx ry e => by
  obtain ⟨i, j, e1, e2, e3⟩ := g2S_inv e
  cases e3
  exact ⟨i, j, vw_str rx e1, vw_str ry e2, qv_same q (.bl _)⟩

/-! ### == of data -/
mutual
def toPD : D → Option PyData
  | .non => some .none
  | .bl b => some (.bool b)
  | .int i => some (.int i)
  | .str s => some (.str s)
  | .tup xs => (toPDs xs).map .tuple
  | .ftup xs => (toPDs xs).map .tuple
  | .lst xs => (toPDs xs).map .list
  | _ => none
def toPDs : List D → Option (List PyData)
  | [] => some []
  | x :: xs => (toPD x).bind fun a => (toPDs xs).map fun b => a :: b
end
section
variable {K : PySem.W.Frag} {m : List Addr} {H : Hp}
mutual
theorem VR.dp {v : V} {d : D} {p : PyData} : VR K m H v d → toPD d = some p → Dp K H v p
  | .non, e => by simp only [toPD] at e; cases e; exact .non
  | .bl b, e => by simp only [toPD] at e; cases e; exact .bl b
  | .int b, e => by simp only [toPD] at e; cases e; exact .int b
  | .str b, e => by simp only [toPD] at e; cases e; exact .str b
  | @VR.tup _ _ _ a vs ds h r, e => by
    simp only [toPD] at e
    cases q : toPDs ds with
    | none => rw [q] at e; cases e
    | some ps => rw [q] at e; cases e; exact .tup (SqT.of h) (r.dps q)
  | @VR.ftup _ _ _ a vs ds o hd h r, e => by
    simp only [toPD] at e
    cases q : toPDs ds with
    | none => rw [q] at e; cases e
    | some ps => rw [q] at e; cases e; exact .tup (SqT.rd (.inr ⟨o, h⟩)) (r.dps q)
  | @VR.lst _ _ _ a vs ds n h r, e => by
    simp only [toPD] at e
    cases q : toPDs ds with
    | none => rw [q] at e; cases e
    | some ps => rw [q] at e; cases e; exact .lst (.inl h) (r.dps q)
  | @VR.lstK _ _ _ a vs ds o its n hk h1 h2 h3 h4 h5 r, e => by
    simp only [toPD] at e
    cases q : toPDs ds with
    | none => rw [q] at e; cases e
    | some ps => rw [q] at e; cases e; exact .lst (.inr ⟨o, its, n, hk, h1, h2, h3, h4, h5⟩) (r.dps q)
  | .dct _ _ _, e => by simp only [toPD] at e; cases e
  | .dctT _ _ _, e => by simp only [toPD] at e; cases e
  | .obj _ _ _, e => by simp only [toPD] at e; cases e
  | .exn0 _ _, e => by simp only [toPD] at e; cases e
  | .exnD _ _ _ _ _, e => by simp only [toPD] at e; cases e
  | .ref _, e => by simp only [toPD] at e; cases e
theorem VRs.dps {v : List V} {d : List D} {p : List PyData} : VRs K m H v d → toPDs d = some p → DpAll K H v p
  | .nil, e => by simp only [toPDs] at e; cases e; exact .nil
  | @VRs.cons _ _ _ v d vs ds h r, e => by
    simp only [toPDs] at e
    cases q : toPD d with
    | none => rw [q] at e; cases e
    | some a =>
      rw [q] at e
      cases q2 : toPDs ds with
      | none => rw [q2] at e; cases e
      | some b => rw [q2] at e; cases e; exact .cons (h.dp q) (r.dps q2)
end
/-- a place of the store is read one deep -/
theorem VR.dpv {S : Sto} (x : SR K m H S) {v : V} {d : D} {p : PyData} (r : VR K m H v d) (e : toPD (vw S d) = some p) : Dp K H v p := by
  cases r with
  | @ref i a h =>
    dsimp only [vw] at e
    cases q : S[i]? with
    | none => rw [q] at e; simp only [toPD] at e; cases e
    | some ob =>
      rw [q] at e
      have z := x.at_ i a ob h q
      cases z with
      | @lst vs ds hh rr =>
        simp only [toPD] at e
        cases q2 : toPDs ds with
        | none => rw [q2] at e; cases e
        | some ps => rw [q2] at e; cases e; exact .lst (SqL.of hh) (rr.dps q2)
      | dct _ _ => simp only [toPD] at e; cases e
      | dctT _ _ => simp only [toPD] at e; cases e
      | ins _ _ => simp only [toPD] at e; cases e
  | non => exact VR.dp (m := m) .non e
  | bl b => exact VR.dp (m := m) (.bl b) e
  | int b => exact VR.dp (m := m) (.int b) e
  | str b => exact VR.dp (m := m) (.str b) e
  | tup h r => exact VR.dp (m := m) (.tup h r) e
  | ftup hd h r => exact VR.dp (m := m) (.ftup hd h r) e
  | lst n h r => exact VR.dp (.lst n h r) e
  | lstK hk h1 h2 h3 h4 h5 r => exact VR.dp (m := m) (.lstK hk h1 h2 h3 h4 h5 r) e
  | dct n h r => exact VR.dp (.dct n h r) e
  | dctT n h r => exact VR.dp (.dctT n h r) e
  | obj n h r => exact VR.dp (.obj n h r) e
  | exn0 n h => exact VR.dp (.exn0 n h) e
  | exnD n nd h hd r => exact VR.dp (.exnD n nd h hd r) e
end
/-- plain things that are told apart at once -/
def eqS : D → D → Option Bool
  | .int i, .int j => some (decide (i = j))
  | .str i, .str j => some (decide (i = j))
  | .bl i, .bl j => some (decide (i = j))
  | .non, .non => some true
  | .non, .int _ | .int _, .non | .non, .str _ | .str _, .non | .non, .bl _ | .bl _, .non => some false
  | .int _, .str _ | .str _, .int _ | .bl _, .str _ | .str _, .bl _ => some false
  | _, _ => none
def eqP (S : Sto) (x y : D) : Option Bool := (toPD (vw S x)).bind fun a => (toPD (vw S y)).bind fun b => if SeqAt.shaped a = true ∧ SeqAt.shaped b = true then some (PyData.eqv a b) else none
def eqD (S : Sto) (x y : D) : Option Bool := (eqS x y).or (eqP S x y)
def gEq : G2 := fun S x y => (eqD S x y).map .bl
def gNe : G2 := fun S x y => (eqD S x y).map fun b => .bl (!b)
theorem eqS_rEq {K : PySem.W.Frag} {m : List Addr} {H : Hp} {x y : V} {dx dy : D} {b : Bool} (rx : VR K m H x dx) (ry : VR K m H y dy) (h : eqS dx dy = some b) : scal x y = true ∧ decide (x = y) = b := by
  cases rx <;> cases ry <;> simp only [eqS] at h <;> (try cases h) <;> refine ⟨rfl, ?_⟩ <;> simp
theorem eqP_inv {S : Sto} {x y : D} {b : Bool} (h : eqP S x y = some b) : ∃ p q, toPD (vw S x) = some p ∧ toPD (vw S y) = some q ∧ SeqAt.shaped p = true ∧ SeqAt.shaped q = true ∧ PyData.eqv p q = b := by
  unfold eqP at h
  cases q1 : toPD (vw S x) with
  | none => rw [q1] at h; cases h
  | some p =>
    rw [q1] at h
    cases q2 : toPD (vw S y) with
    | none => rw [q2] at h; cases h
    | some q =>
      rw [q2] at h
      dsimp only [Option.bind] at h
      split at h
      · rename_i z
        cases h
        exact ⟨p, q, rfl, rfl, z.1, z.2, rfl⟩
      · cases h
theorem opl_eq (hu : X.A.units + 64 < cLine) : OpL X (compareOp .Eq) gEq := ⟨fun pins s σ H m S x y dx dy d v u I q rx ry ex ey e => by
  unfold gEq eqD at e
  cases z : eqS dx dy with
  | some b =>
    rw [z] at e
    cases e
    obtain ⟨h1, h2⟩ := eqS_rEq rx ry z
    exact thn (op_eq pins s σ H x y v u _ I ex ey ⟨h1, by rw [h2]; exact qv_same q (.bl b)⟩) fun _ _ z => vp_of z
  | none =>
    rw [z] at e
    cases z2 : eqP S dx dy with
    | none => rw [z2] at e; cases e
    | some b =>
      rw [z2] at e
      cases e
      obtain ⟨p, p', h1, h2, h3, h4, h5⟩ := eqP_inv z2
      exact thn (op_eqD hu pins s σ H x y v u _ I ex ey ⟨p, p', rx.dpv q h1, ry.dpv q h2, h3, h4, by rw [h5]; exact qv_same q (.bl b)⟩) fun _ _ z => vp_of z⟩
theorem opl_ne (hu : X.A.units + 64 < cLine) : OpL X (compareOp .NotEq) gNe := ⟨fun pins s σ H m S x y dx dy d v u I q rx ry ex ey e => by
  unfold gNe eqD at e
  cases z : eqS dx dy with
  | some b =>
    rw [z] at e
    cases e
    obtain ⟨h1, h2⟩ := eqS_rEq rx ry z
    exact thn (op_ne pins s σ H x y v u _ I ex ey ⟨h1, by rw [h2]; exact qv_same q (.bl _)⟩) fun _ _ z => vp_of z
  | none =>
    rw [z] at e
    cases z2 : eqP S dx dy with
    | none => rw [z2] at e; cases e
    | some b =>
      rw [z2] at e
      cases e
      obtain ⟨p, p', h1, h2, h3, h4, h5⟩ := eqP_inv z2
      exact thn (op_neD hu pins s σ H x y v u _ I ex ey ⟨p, p', rx.dpv q h1, ry.dpv q h2, h3, h4, by rw [h5]; exact qv_same q (.bl _)⟩) fun _ _ z => vp_of z⟩
/-- is None -/
def isNonD : D → Bool
  | .non => true
  | _ => false
def gIsN : G2 := fun _ x y => match y with
  | .non => some (.bl (isNonD x))
  | _ => none
def gNotN : G2 := fun _ x y => match y with
  | .non => some (.bl (!isNonD x))
  | _ => none
theorem vr_non {K : PySem.W.Frag} {m : List Addr} {H : Hp} {v : V} {d : D} (r : VR K m H v d) : decide (v = .non) = isNonD d := by
  cases r <;> simp [isNonD]
theorem opl_notN : OpL X (compareOp .IsNot) gNotN := .of op_notN fun H m S x y dx dy d q rx ry e => by
  unfold gNotN at e
  split at e
  · cases e
    cases ry
    exact ⟨rfl, by rw [vr_non rx]; exact qv_same q (.bl _)⟩
  · cases e

/-! ### built-ins -/
def gLen : GC := fun S ds => match ds with
  | [d] => match vw S d with
    | .lst xs => some (.int xs.length)
    | .tup xs => some (.int xs.length)
    | .ftup xs => some (.int xs.length)
    | .str z => if z.length ≤ sizeLine then some (.int z.length) else none
    | _ => none
  | _ => none
theorem VRs.one {K : PySem.W.Frag} {m : List Addr} {H : Hp} {vs : List V} {d : D} (r : VRs K m H vs [d]) : ∃ v, vs = [v] ∧ VR K m H v d := by
  cases r with
  | cons h r => cases r; exact ⟨_, rfl, h⟩
theorem VRs.two {K : PySem.W.Frag} {m : List Addr} {H : Hp} {vs : List V} {d e : D} (r : VRs K m H vs [d, e]) : ∃ v w, vs = [v, w] ∧ VR K m H v d ∧ VR K m H w e := by
  cases r with
  | cons h r =>
    cases r with
    | cons h' r => cases r; exact ⟨_, _, rfl, h, h'⟩
theorem cl_len : CallL X (.builtin "len") gLen := .of call_len fun H m S xs ds d q r e => by
  unfold gLen at e
  split at e
  · rename_i d0
    obtain ⟨v, rfl, rv⟩ := r.one
    split at e
    · rename_i ys e1
      cases e
      obtain ⟨a, vs, rfl, h1, r1⟩ := vw_lst q rv e1
      exact ⟨_, ys.length, rfl, .inl ⟨vs, h1, r1.length.symm⟩, qv_same q (.int _)⟩
    · rename_i ys e1
      cases e
      obtain ⟨a, vs, rfl, h1, r1⟩ := vw_tup rv e1
      exact ⟨_, ys.length, rfl, .inr ⟨vs, SqT.of h1, r1.length.symm⟩, qv_same q (.int _)⟩
    · rename_i ys e1
      cases e
      obtain ⟨a, vs, o, rfl, _, h1, r1⟩ := vw_ftup rv e1
      exact ⟨_, ys.length, rfl, .inr ⟨vs, SqT.rd (.inr ⟨o, h1⟩), r1.length.symm⟩, qv_same q (.int _)⟩
    · rename_i z e1
      split at e
      · cases e
        cases vw_str rv e1
        exact ⟨_, z.length, rfl, ⟨‹_›, rfl⟩, qv_same q (.int _)⟩
      · cases e
    · cases e
  · cases e
def gAbs : GC := fun _ ds => match ds with
  | [.int i] => some (.int (if i < 0 then -i else i))
  | _ => none
def gMin2 : GC := fun _ ds => match ds with
  | [.int i, .int j] => some (.int (if j < i then j else i))
  | _ => none
theorem cl_min2 (hc : X.calm = true) : CallL X (.builtin "min") gMin2 := .of (call_min2 hc) fun H m S xs ds d q r e => by
  unfold gMin2 at e
  split at e
  · cases e
    obtain ⟨v, w, rfl, rv, rw'⟩ := r.two
    cases rv
    cases rw'
    exact ⟨_, _, rfl, qv_same q (.int _)⟩
  · cases e
def gMax2 : GC := fun _ ds => match ds with
  | [.int i, .int j] => some (.int (if j > i then j else i))
  | _ => none
theorem cl_max2 (hc : X.calm = true) : CallL X (.builtin "max") gMax2 := .of (call_max2 hc) fun H m S xs ds d q r e => by
  unfold gMax2 at e
  split at e
  · cases e
    obtain ⟨v, w, rfl, rv, rw'⟩ := r.two
    cases rv
    cases rw'
    exact ⟨_, _, rfl, qv_same q (.int _)⟩
  · cases e
def blsOf : List D → Option (List Bool)
  | [] => some []
  | .bl b :: r => (blsOf r).map fun bs => b :: bs
  | _ => none
theorem vrs_bls {K : PySem.W.Frag} {m : List Addr} {H : Hp} : ∀ {vs : List V} {ds : List D} {bs : List Bool}, VRs K m H vs ds → blsOf ds = some bs → vs = bs.map V.bl
  | _, _, bs, .nil, e => by simp only [blsOf] at e; cases e; rfl
  | _, _, bs, @VRs.cons _ _ _ v d vs ds h r, e => by
    cases h with
    | bl b =>
      simp only [blsOf] at e
      cases q : blsOf ds with
      | none => rw [q] at e; cases e
      | some cs => rw [q] at e; cases e; rw [vrs_bls r q]; rfl
    | _ => simp only [blsOf] at e; cases e
def gAll : GC := fun S ds => match ds with
  | [d] => match vw S d with
    | .lst xs => (blsOf xs).map fun bs => .bl (bs.all id)
    | _ => none
  | _ => none
def gAny : GC := fun S ds => match ds with
  | [d] => match vw S d with
    | .lst xs => (blsOf xs).map fun bs => .bl (bs.any id)
    | _ => none
  | _ => none
theorem cl_any (hc : X.calm = true) : CallL X (.builtin "any") gAny := .of (cr_any hc) fun H m S xs ds d q r e => by
  unfold gAny at e
  split at e
  · obtain ⟨v, rfl, rv⟩ := r.one
    split at e
    · rename_i ys e1
      obtain ⟨a, vs, rfl, h1, r1⟩ := vw_lst q rv e1
      cases q2 : blsOf ys with
      | none => rw [q2] at e; cases e
      | some bs =>
        rw [q2] at e
        cases e
        exact ⟨a, bs, rfl, by rw [← vrs_bls r1 q2]; exact h1, qv_same q (.bl _)⟩
    · cases e
  · cases e
def gTuple : GC := fun S ds => match ds with
  | [d] => match vw S d with
    | .lst xs => some (.tup xs)
    | .tup xs => some (.tup xs)
    | _ => none
  | _ => none
def gList : GC := fun S ds => match ds with
  | [d] => match vw S d with
    | .lst xs => some (.lst xs)
    | .tup xs => some (.lst xs)
    | .ftup xs => some (.lst xs)
    | _ => none
  | _ => none
/-- str of an int, of a text -/
def gStr : GC := fun _ ds => match ds with
  | [.int i] => if i.natAbs.log2 < 1920 then some (.str (toString i)) else none
  | [.str z] => some (.str z)
  | _ => none
theorem cl_str : CallL X (.type "str") gStr := ⟨fun pins s σ H m S xs ds d us I q r rv e => by
  unfold gStr at e
  split at e
  · split at e
    · cases e
      obtain ⟨v, rfl, rv1⟩ := r.one
      cases rv1
      exact thn (call_str_int pins s σ H _ us _ I rv ⟨_, rfl, ‹_›, qv_same q (.str _)⟩) fun _ _ z => vp_of z
    · cases e
  · cases e
    obtain ⟨v, rfl, rv1⟩ := r.one
    cases rv1
    exact thn (SkE.call_str_str pins s σ H _ us _ I rv ⟨_, rfl, qv_same q (.str _)⟩) fun _ _ z => vp_of z
  · cases e⟩
/-- repr of an int, a truth -/
def gRepr : GC := fun _ ds => match ds with
  | [.int i] => if i.natAbs.log2 < 1920 then some (.str (toString i)) else none
  | [.bl b] => some (.str (if b then "True" else "False"))
  | _ => none
end
end MP

namespace MP
open PySem PySem.Spec PyProof.Rows L2

/-! ### what a thing is -/
inductive Tg where
  | non | bl | int | str | tup | lst | dct | obj (C : Addr)
  deriving DecidableEq
def tyG : Tg → Value
  | .non => .type "NoneType"
  | .bl => .type "bool"
  | .int => .type "int"
  | .str => .type "str"
  | .tup => .type "tuple"
  | .lst => .type "list"
  | .dct => .type "dict"
  | .obj C => .ref C
def tgD : D → Option Tg
  | .non => some .non
  | .bl _ => some .bl
  | .int _ => some .int
  | .str _ => some .str
  | .tup _ => some .tup
  | .ftup _ => some .tup
  | .lst _ => some .lst
  | .dct _ _ => some .dct
  | .obj C _ => some (.obj C)
  | .exn _ _ => none
  | .ref _ => none
structure OwnOk (K : PySem.W.Frag) (C : Addr) : Prop where
  cl : Cls K C
  ha : PySem.W.findIn K (.ref C) "__class__" = some (some (.builtin "object.__class__"))
  hn : PySem.W.specialIn K (.builtin "object.__class__") "__get__" = some (some (.builtin "getset_descriptor.__get__"))
  htk : PySem.W.takesIn K (.builtin "object.__class__") = some true
  hm : PySem.W.mroIn K C (.type "object") = some true
section
variable {X : Cx} {pins : List (Addr × Obj)} {σ : L2.St} {H : Hp} {s : Shared} {m : List Addr} {S : Sto}
/-- what the library's rules ask of a value of that type -/
def Kit (K : PySem.W.Frag) (s : Shared) (u t : Value) : Prop := ∃ P : Heap → Prop, PySem.W.KitX K u t P ∧ P s.heap ∧ u ≠ .builtin "__main__.__loader__#opaque"
theorem kit_rd {a : Addr} {kvs : List (Key × V)} (I : Inv X pins σ H s) (h : Rd H a (.dK kvs)) : Kit X.K s (.ref a) (.type "dict") := by
  rcases h with h | ⟨ob, h⟩
  · exact kit_of I (x := .ref a) rfl (.base (.dK h))
  · exact kit_of I (x := .ref a) rfl (.fDict h)
theorem kit_rdT {a : Addr} {kvs : List (List Key × V)} (I : Inv X pins σ H s) (h : Rd H a (.dT kvs)) : Kit X.K s (.ref a) (.type "dict") := by
  rcases h with h | ⟨ob, h⟩
  · exact kit_of I (x := .ref a) rfl (.base (.dT h))
  · obtain ⟨_, _, _, vs, _, o, es, ep, h1, h2, _⟩ := (show ObjOk X.prog X.w H s.heap a (.frz ob (.dT kvs)) from I.hok a _ h)
    exact ⟨_, PySem.W.kitx_dict, ⟨o, h1, h2.1⟩, fun z => nomatch z⟩
theorem kit_lst {a : Addr} {xs : List V} (I : Inv X pins σ H s) (h : Rd H a (.lst xs)) : Kit X.K s (.ref a) (.type "list") := by
  rcases h with h | ⟨ob, h⟩
  · exact kit_of I (x := .ref a) rfl (.base (.lst h))
  · exact kit_of I (x := .ref a) rfl (.base (.frz h))
theorem kit_d {v : V} {u : Value} {d : D} {t : Tg} (I : Inv X pins σ H s) (x : SR X.K m H S) (r : RelV v u) (w : VR X.K m H v d) (ht : tgD (vw S d) = some t) (ho : ∀ C, t = .obj C → OwnOk X.K C) : Kit X.K s u (tyG t) := by
  cases w with
  | non => cases ht; exact kit_of I r (.base .non)
  | bl b => cases ht; exact kit_of I r (.base (.bl b))
  | int b => cases ht; exact kit_of I r (.base (.int b))
  | str b => cases ht; exact kit_of I r (.base (.str b))
  | tup h _ => cases ht; exact kit_of I r (.base (.tup h))
  | ftup _ h _ => cases ht; exact kit_of I r (.fTuple h)
  | lst n h _ => cases ht; cases r; exact kit_lst I h
  | lstK hk h1 h2 h3 h4 h5 _ => cases ht; exact kit_of I r (.kList hk h1)
  | dct n h _ => cases ht; cases r; exact kit_rd I (.inl h)
  | dctT n h _ => cases ht; cases r; exact kit_rdT I (.inl h)
  | @obj a C dx fs gs n h _ =>
    cases ht
    have o := ho C rfl
    exact kit_of I r (.base (.ins h o.cl o.ha o.hn o.htk o.hm))
  | exn0 n h => cases ht
  | exnD n nd h hd _ => cases ht
  | @ref i a h =>
    dsimp only [vw] at ht
    cases q : S[i]? with
    | none => rw [q] at ht; cases ht
    | some ob =>
      rw [q] at ht
      cases r
      cases x.at_ i a ob h q with
      | lst h _ => cases ht; exact kit_lst I (.inl h)
      | dct h _ => cases ht; exact kit_rd I (.inl h)
      | dctT h _ => cases ht; exact kit_rdT I (.inl h)
      | @ins C dx fs gs h _ =>
        cases ht
        have o := ho C rfl
        exact kit_of I (x := .ref a) rfl (.base (.ins h o.cl o.ha o.hn o.htk o.hm))
end

/-! ### isinstance -/
abbrev Tab := Tg → Option Bool
structure IsiOk (K : PySem.W.Frag) (c : Value) (tab : Tab) : Prop where
  one : ∀ t b, tab t = some b → PySem.W.kitOne K (tyG t) c = some b ∧ ∀ C, t = .obj C → OwnOk K C
section
variable {X : Cx} {e ce : Expr} {pos p : Pos} {l : LE} {cv : Value} {cw : V} {tab : Tab}
def gIsi (tab : Tab) (S : Sto) (d : D) : Option D := ((tgD (vw S d)).bind tab).map .bl
def lIsi (tab : Tab) (l : LE) : LE := fun ρ S => (l ρ S).bind fun d S1 => lift1 (gIsi tab S1 d) S1
theorem pel_isi (hg : Gl X "isinstance") (hm : X.mg "isinstance" = none) (he : PEL X e l) (hc : PE X ce (tC cw)) (hcv : ClsV cw cv) (ok : IsiOk X.K cv tab)
    (hs : starEach [e, ce] X.env = (false, eval e X.env) :: starEach [ce] X.env := by rfl) (hs2 : starEach [ce] X.env = (false, eval ce X.env) :: starEach [] X.env := by rfl)
    (hpl : (backTo pos (starEach [ce] X.env)).any (·.1) = false := by rfl) : PEL X (.Call (.Name "isinstance" p) [e, ce] [] pos) (lIsi tab l) := by
  refine ⟨fun pins s σ H m ρ S I x r hp => ?_⟩
  refine wpAny_Call_Name_kw (ld_blt I hg hm (u := .builtin "isinstance") (by decide +kernel) ?_ (by decide) (by decide))
  refine PyProof.Rows.callWith_builtin1 ?_ hs hpl
  rw [hs]
  show wpAny _ _ (spliced ((false, eval e X.env) :: backTo pos (starEach [ce] X.env))) _ _ s
  refine Calls.spliced_cons (run_seq he I x r hp fun d S1 q1 v u s1 H1 m1 I1 rv e1 x1 w1 r1 hp1 => ?_)
  rw [hs2]
  show wpAny _ _ (spliced ((false, eval ce X.env) :: backTo pos (starEach [] X.env))) _ _ s1
  refine Calls.spliced_cons (thn (hc.run pins s1 σ H1 (fun v' H' => v' = cw ∧ H' = H1) I1 ⟨rfl, rfl⟩) fun u2 s2 ⟨v2, H2, I2, rv2, ev, eH⟩ => ?_)
  subst ev
  subst eH
  refine Calls.spliced_nil ?_
  cases q2 : gIsi tab S1 d with
  | none => rw [q2] at hp1; exact absurd rfl hp1.1
  | some d' =>
    have e0 : lIsi tab l ρ S = .ok d' S1 := by unfold lIsi; rw [q1, bind_ok, q2]; rfl
    rw [e0]
    unfold gIsi at q2
    cases qt : tgD (vw S1 d) with
    | none => rw [qt] at q2; cases q2
    | some t =>
      rw [qt] at q2
      cases qb : tab t with
      | none => rw [show (some t).bind tab = tab t from rfl, qb] at q2; cases q2
      | some b =>
        rw [show (some t).bind tab = tab t from rfl, qb] at q2
        cases q2
        obtain ⟨k1, k2⟩ := ok.one t b qb
        obtain ⟨P, Z, pp, hx⟩ := kit_d I2 x1 rv w1 qt k2
        have ec := hcv.eq rv2
        subst ec
        exact PySem.W.kia_one Z I2.kIn pp k1 hx fun tk => ⟨_, S1, rfl, .bl b, H2, m1, I2.tok tk, rfl, e1, x1, .bl b⟩
end

/-! ### own special methods -/
/-- somewhere below the running body, with room -/
structure SubA (X : Cx) (n : Nat) (A : Around) : Prop where
  room : Room n A
  fr : A.frames = X.A.frames
theorem SubA.in1 {X : Cx} {n : Nat} {A : Around} (s : SubA X (n + 1) A) : SubA X n A.in1 := ⟨s.room.in1, s.fr⟩
theorem SubA.mono {X : Cx} {n m : Nat} {A : Around} (s : SubA X n A) (h : m ≤ n) : SubA X m A := ⟨s.room.mono h, s.fr⟩
theorem SubA.self {X : Cx} {k : Nat} (h : Room k X.A) : SubA X k X.A := ⟨h, rfl⟩
def F1 (gp : Sto → D → Option D) : F := fun ds S => match ds with
  | [x] => lift1 (gp S x) S
  | _ => .bad
def F2 (gp : G2) : F := fun ds S => match ds with
  | [x, y] => lift1 (gp S x y) S
  | _ => .bad
section
variable {X : Cx} {pins : List (Addr × Obj)} {σ : L2.St} {H : Hp} {s : Shared} {m : List Addr} {S S' : Sto} {k : Nat} {f C : Addr} {fd : FuncData} {ps : List Str} {g : F} {vs : List V} {us : List Value} {ds : List D} {d : D}
theorem run_pure {A' : Around} {Ex : Value → Shared → Prop} (sb : SubA X k A') (Fn : FnL X.prog X.w X.K X.mg X.base k f fd ps g) (hb : Binds X.K fd ps []) (I : Inv X pins σ H s) (x : SR X.K m H S) (r : Vals vs us) (rd : VRs X.K m H vs ds) (hl : vs.length = ps.length) (hg : g ds S = .ok d S') :
    wpAny (model X.prog X.w) A' (call (.ref f) us) (VP X pins σ m H d S') Ex s := by
  have e0 : Env0 X.prog X.w X.K X.mg X.base A' X.stack s H := by
    have e := I.env0
    exact ⟨by rw [sb.fr]; exact e.frames, e.mod, e.bs, e.bsz, e.funs, e.frf, e.hok, e.bare⟩
  have hsp : spL X.K g ps.length vs H (fun v H' => QV X.K m H S' d v H') (fun _ _ _ => False) := by
    refine ⟨hl, m, S, ds, x, rd, fun z => ?_, fun d2 S2 q v H' z => ?_, fun C fs S2 q => ?_⟩
    · rw [hg] at z; cases z
    · rw [hg] at q; cases q; exact z
    · rw [hg] at q; cases q
  have hl2 : (us ++ ([] : List Value)).length = ps.length := by rw [List.append_nil, ← r.length]; exact hl
  have hb' := hb s us I.kIn hl2
  rw [List.append_nil] at hb'
  refine wpAny_call (codeAny_mono (Fn.run A' X.stack s H ⟨us, []⟩ us vs _ _ sb.room e0 hb' r hsp) fun r s' hq => ?_)
  cases r with
  | error e => obtain ⟨_, _, _, _, _, _, _, _, _, _, _, _, hq⟩ := hq; exact hq.elim
  | ok fl =>
    cases fl with
    | ret w =>
      obtain ⟨z, H', I', rz, m', e, x', w'⟩ := I.after hq
      exact ⟨z, H', m', I', rz, e, x', w'⟩
    | next => exact False.elim hq
    | brk => exact False.elim hq
    | cont => exact False.elim hq

/-- == by an own __eq__; the other one may be of the types ts -/
def gOwnEq (C : Addr) (ts : List Tg) (gp : G2) : G2 := fun S x y => match vw S x with
  | .obj C' _ => if C' = C then (match tgD (vw S y) with
    | some t => if t ∈ ts then gp S x y else none
    | none => none) else none
  | _ => none
theorem gOwnEq_inv {ts : List Tg} {gp : G2} {x y d : D} (h : gOwnEq C ts gp S x y = some d) : ∃ fs t, vw S x = .obj C fs ∧ tgD (vw S y) = some t ∧ t ∈ ts ∧ gp S x y = some d := by
  unfold gOwnEq at h
  split at h
  · rename_i C' fs q
    split at h
    · rename_i hc
      subst hc
      split at h
      · rename_i t qt
        split at h
        · exact ⟨fs, t, q, qt, ‹_›, h⟩
        · cases h
      · cases h
    · cases h
  · cases h
structure EqM (X : Cx) (C : Addr) (ts : List Tg) (gp : G2) : Prop where
  ex : ∃ (k : Nat) (f : Addr) (fd : FuncData) (ps : List Str), FnL X.prog X.w X.K X.mg X.base k f fd ps (F2 gp) ∧ Room (k + 2) X.A ∧ Binds X.K fd ps [] ∧ ps.length = 2 ∧ PySem.W.findIn X.K (.ref C) "__eq__" = some (some (.ref f)) ∧ PySem.W.isFn X.K (.ref f) = true
  fst : ∀ t ∈ ts, PySem.W.notFirst X.K C (tyG t) = true ∧ ∀ C', t = .obj C' → OwnOk X.K C'
theorem opl_ownEq {ts : List Tg} {gp : G2} (E : EqM X C ts gp) : OpL X (compareOp .Eq) (gOwnEq C ts gp) := ⟨fun pins s σ H m S x y dx dy d v u I q rx ry ex ey e => by
  obtain ⟨k, f, fd, ps, Fn, hr, hb, hl, hs, hf⟩ := E.ex
  obtain ⟨fs, t, h1, h2, h3, h4⟩ := gOwnEq_inv e
  obtain ⟨n1, n2⟩ := E.fst t h3
  obtain ⟨a, dx', fs', rfl, ha, _⟩ := vw_obj q rx h1
  cases ex
  obtain ⟨mA, J, _⟩ := ins_get I.hok ha
  obtain ⟨od, J, _⟩ := J.look
  obtain ⟨mm, hF⟩ := I.fr
  obtain ⟨P, Z, pp, _⟩ := kit_d I q ey ry h2 n2
  show wpAny _ _ (richCompare .Eq _ _) _ _ _
  refine PySem.W.cmp_K (op := .Eq) (tb := tyG t) (SubA.self hr).room.units0 hF I.ok.mod.kin J (Z.ty _ _ I.kIn pp) n1 hs hf ?_
  refine wpAny_mono (run_pure (vs := [.ref a, y]) (us := [.ref a, u]) (SubA.self (hr.mono (by omega))) Fn hb I q (.cons rfl (.cons ey .nil)) (.cons rx (.cons ry .nil)) (by rw [hl]; rfl) (show F2 gp [dx, dy] S = .ok d S from by simp only [F2]; rw [h4]; rfl)) (fun w s' z => ?_) fun _ _ z => z
  obtain ⟨vv, H', m', I', rv, e', x', w'⟩ := z
  have : w ≠ .notImplemented := fun zz => by
    subst zz
    cases w' <;> first | (cases rv; done) | (obtain ⟨_, rv⟩ := rv; cases rv)
  show PySem.W.CmpBack _ w s'
  unfold PySem.W.CmpBack
  split
  · exact absurd rfl this
  · exact ⟨vv, H', m', I', rv, e', x', w'⟩⟩
end
/-! ### != by object.__ne__ -/
section
variable {prog : Program} {w : World} {K : PySem.W.Frag} {h₀ : Heap} {L m : List Addr} {A : Around} {E : Value → Shared → Prop} {s : Shared} {x f C : Addr} {ox : Obj} {od : Option Obj}
theorem ifBound_bi {M : Model} {name : Str} {id : String} {args : List Value} {Q : Option Value → Shared → Prop} (X : K.In s.heap) (I : PySem.W.InstAt s.heap x ox C od) (hs : PySem.W.findIn K (.ref C) name = some (some (.builtin id)))
    (hb : ∀ self, bindSpecial (.builtin id) self = pure (.builtin id, [self])) (h : wpAny M A (call (.builtin id) (.ref x :: args)) (fun v => Q (some v)) E s) : wpAny M A (callSpecialIfBound? (.ref x) name args) Q E s := by
  simp only [callSpecialIfBound?, bindSpecialIfBound?]
  refine wpAny_holding (wpAny_bind (wpAny_bind (wpAny_bind (I.type.here ((PySem.W.looks_findIn X hs).here ?_)))))
  refine wpAny_bind (wpAny_askSetting (wpAny_ite ?_))
  have fin : wpAny M A (call (.builtin id) ([.ref x] ++ args) >>= fun v => pure (some v)) Q E s := wpAny_bind (wpAny_mono h (fun v s' h' => wpAny_pure h') fun _ _ h' => h')
  split
  · exact wpAny_bind ((PySem.W.Looks.of_pure (hb _)).here (wpAny_pure (by exact fin)))
  · exact wpAny_tryCatch (wpAny_bind ((PySem.W.Looks.of_pure (hb _)).here (wpAny_pure (by exact fin))))
open Builtin in
theorem ne_entry {b : Value} {Q : Fin → Shared → Prop} (hu : A.units < cLine) (X : K.In s.heap) (I : PySem.W.InstAt s.heap x ox C od) (hs : PySem.W.findIn K (.ref C) "__eq__" = some (some (.ref f))) (hf : PySem.W.isFn K (.ref f) = true)
    (h : wpAny (model prog w) A (call (.ref f) [.ref x, b]) (fun v s' => ∃ b, v = .bool b ∧ Q (.done (.ret (.bool (!b)))) s') E s) :
    wpAny (model prog w) A (Builtin.«object.__ne__» ⟨[.ref x, b], []⟩) Q E s := by
  unfold Builtin.«object.__ne__»
  repeat (first
    | with_reducible refine wpAny_cRoomFor hu ?_
    | (refine wpAny_bind (m := callSpecialIfBound? (.ref x) (Str.ofString "__eq__") [b])
        (PySem.W.ifBound_K X I hs hf (wpAny_mono h (fun r s' hr => by
          obtain ⟨b, rfl, hq⟩ := hr
          repeat (first | exact hq | exact wpAny_pure hq | exact wpAny_truthy_bool hq | (refine wpAny_bind (m := truthy (.bool _)) (wpAny_truthy_bool ?_)) | wp_step)) fun _ _ e => e)))
    | wp_step)
theorem ne_K {b tb : Value} {Q : Value → Shared → Prop} (hu : A.units + 1 < cLine) (X : K.In s.heap) (I : PySem.W.InstAt s.heap x ox C od) (hb : PySem.W.Looks (model prog w) s.heap (typeOf b) tb) (hn : PySem.W.notFirst K C tb = true)
    (hne : PySem.W.findIn K (.ref C) "__ne__" = some (some (.builtin "object.__ne__"))) (hm : PySem.W.mroIn K C (.type "object") = some true) (hs : PySem.W.findIn K (.ref C) "__eq__" = some (some (.ref f))) (hf : PySem.W.isFn K (.ref f) = true)
    (h : wpAny (model prog w) A.in1 (call (.ref f) [.ref x, b]) (fun v s' => ∃ b, v = .bool b ∧ Q (.bool (!b)) s') E s) : wpAny (model prog w) A (richCompare .NotEq (.ref x) b) Q E s := by
  have one : wpAny (model prog w) A (tryCompare (.ref x) (cmpInfo .NotEq).2.1 b) (fun r s' => ∃ v, r = some v ∧ Q v s') E s := by
    unfold tryCompare
    refine wpAny_bind (ifBound_bi X I hne PySem.F.slot_object_ne.bind (wpAny_call (codeAny_call_builtin PySem.F.slot_object_ne.plain PySem.F.cmpEntry_ne (PySem.W.check_slot (i := "object.__ne__") (owner := "object") (n := "__ne__") PySem.F.cmpKind_ne PySem.F.cmpSplit_ne (I.type.andThen (PySem.W.looks_mroIn X hm)) (PySem.F.cmpArgs_ne _ _)
      (ne_entry (A := A.in1) hu X I hs hf (wpAny_mono h (fun v s' hv => ?_) fun _ _ e => e))))))
    obtain ⟨b, rfl, hq⟩ := hv
    first | exact ⟨b, rfl, wpAny_pure ⟨_, rfl, hq⟩⟩ | exact ⟨b, rfl, wpAny_pure (wpAny_pure ⟨_, rfl, hq⟩)⟩ | exact ⟨b, rfl, ⟨_, rfl, hq⟩⟩
  unfold richCompare
  simp only [oneThing_ref]
  refine wpAny_holding (wpAny_bind (wpAny_cRoomFor (by omega) ?_))
  refine wpAny_bind (I.type.here (wpAny_bind (hb.here ?_)))
  split
  · rename_i q
    have e : PySem.W.subIn K tb (.ref C) = some false := by
      rcases Bool.or_eq_true_iff.mp hn with e | e
      · rw [beq_iff_eq.mp e] at q; simp at q
      · exact beq_iff_eq.mp e
    refine wpAny_bind ((PySem.W.looks_subIn X e).here ?_)
    simp only [Bool.false_eq_true, if_false]
    refine wpAny_bind (wpAny_mono one (fun r s' z => ?_) fun _ _ e => e)
    obtain ⟨v, rfl, hq⟩ := z
    exact wpAny_pure hq
  · refine wpAny_bind (wpAny_pure ?_)
    simp only [Bool.false_eq_true, if_false]
    refine wpAny_bind (wpAny_mono one (fun r s' z => ?_) fun _ _ e => e)
    obtain ⟨v, rfl, hq⟩ := z
    exact wpAny_pure hq
end
end MP

namespace MP
open PySem PySem.Spec PyProof.Rows L2

section
variable {X : Cx} {C : Addr}
/-- != by an own __eq__ and object.__ne__ -/
def gOwnNe (C : Addr) (ts : List Tg) (gp : G2) : G2 := fun S x y => (gOwnEq C ts gp S x y).bind fun d => match d with
  | .bl b => some (.bl (!b))
  | _ => none
theorem opl_ownNe {ts : List Tg} {gp : G2} (E : EqM X C ts gp) (hne : PySem.W.findIn X.K (.ref C) "__ne__" = some (some (.builtin "object.__ne__"))) (hm : PySem.W.mroIn X.K C (.type "object") = some true) : OpL X (compareOp .NotEq) (gOwnNe C ts gp) := ⟨fun pins s σ H m S x y dx dy d v u I q rx ry ex ey e => by
  obtain ⟨k, f, fd, ps, Fn, hr, hb, hl, hs, hf⟩ := E.ex
  unfold gOwnNe at e
  cases e1 : gOwnEq C ts gp S dx dy with
  | none => rw [e1] at e; cases e
  | some d1 =>
    rw [e1] at e
    dsimp only [Option.bind] at e
    split at e
    · rename_i b
      cases e
      obtain ⟨fs, t, h1, h2, h3, h4⟩ := gOwnEq_inv e1
      obtain ⟨n1, n2⟩ := E.fst t h3
      obtain ⟨a, dx', fs', rfl, ha, _⟩ := vw_obj q rx h1
      cases ex
      obtain ⟨mA, J, _⟩ := ins_get I.hok ha
      obtain ⟨od, J, _⟩ := J.look
      obtain ⟨P, Z, pp, _⟩ := kit_d I q ey ry h2 n2
      have sb : SubA X (k + 2) X.A := SubA.self hr
      show wpAny _ _ (richCompare .NotEq _ _) _ _ _
      refine ne_K (tb := tyG t) sb.in1.room.units0 I.kIn J (Z.ty _ _ I.kIn pp) n1 hne hm hs hf ?_
      refine wpAny_mono (run_pure (vs := [.ref a, y]) (us := [.ref a, u]) (sb.in1.mono (by omega)) Fn hb I q (.cons rfl (.cons ey .nil)) (.cons rx (.cons ry .nil)) (by rw [hl]; rfl) (show F2 gp [dx, dy] S = .ok (.bl b) S from by simp only [F2]; rw [h4]; rfl)) (fun w s' z => ?_) fun _ _ z => z
      obtain ⟨vv, H', m', I', rv, e', x', w'⟩ := z
      cases w'
      obtain rfl : w = Value.bool b := rv
      exact ⟨b, rfl, .bl (!b), H', m', I', rfl, e', x', .bl _⟩
    · cases e⟩
/-- an own special method of one argument -/
structure OneM (X : Cx) (C : Addr) (nm : Str) (gp : Sto → D → Option D) : Prop where
  ex : ∃ (k : Nat) (f : Addr) (fd : FuncData) (ps : List Str), FnL X.prog X.w X.K X.mg X.base k f fd ps (F1 gp) ∧ Room (k + 3) X.A ∧ Binds X.K fd ps [] ∧ ps.length = 1 ∧ PySem.W.findIn X.K (.ref C) nm = some (some (.ref f)) ∧ PySem.W.isFn X.K (.ref f) = true
def gOwn1 (C : Addr) (gp : Sto → D → Option D) (S : Sto) (d : D) : Option D := match vw S d with
  | .obj C' _ => if C' = C then gp S d else none
  | _ => none
theorem gOwn1_inv {gp : Sto → D → Option D} {S : Sto} {x d : D} (h : gOwn1 C gp S x = some d) : ∃ fs, vw S x = .obj C fs ∧ gp S x = some d := by
  unfold gOwn1 at h
  split at h
  · rename_i C' fs q
    split at h
    · rename_i hc
      subst hc
      exact ⟨fs, q, h⟩
    · cases h
  · cases h
def strD : D → Option D
  | .str z => some (.str z)
  | _ => none
def gStrO (C : Addr) (gp : Sto → D → Option D) : GC := fun S ds => match ds with
  | [d] => (gOwn1 C gp S d).bind strD
  | _ => none
theorem gStrO_inv {gp : Sto → D → Option D} {S : Sto} {ds : List D} {d : D} (h : gStrO C gp S ds = some d) : ∃ x fs z, ds = [x] ∧ vw S x = .obj C fs ∧ gp S x = some (.str z) ∧ d = .str z := by
  unfold gStrO at h
  split at h
  · rename_i x
    cases q : gOwn1 C gp S x with
    | none => rw [q] at h; cases h
    | some e =>
      rw [q] at h
      obtain ⟨fs, h1, h2⟩ := gOwn1_inv q
      cases e with
      | str z => cases h; exact ⟨x, fs, z, rfl, h1, h2, rfl⟩
      | _ => cases h
  · cases h
theorem strBack {pins : List (Addr × Obj)} {σ : L2.St} {m : List Addr} {H : Hp} {S' : Sto} {z : Str} {w : Value} {s' : Shared} (h : VP X pins σ m H (.str z) S' w s') : PySem.W.StrBack (VP X pins σ m H (.str z) S') w s' := by
  obtain ⟨vv, H', m', I', rv, e', x', w'⟩ := id h
  cases w'
  obtain ⟨t, rfl⟩ := rv
  exact h
theorem cl_strO {gp : Sto → D → Option D} (E : OneM X C "__str__" gp) : CallL X (.type "str") (gStrO C gp) := ⟨fun pins s σ H m S xs ds d us I q r rv e => by
  obtain ⟨k, f, fd, ps, Fn, hr, hb, hl, hs, hf⟩ := E.ex
  obtain ⟨x, fs, z, rfl, h1, h2, rfl⟩ := gStrO_inv e
  obtain ⟨v, rfl, w⟩ := r.one
  obtain ⟨u, rfl, ru⟩ := vals1 rv
  obtain ⟨a, dx, fs', rfl, ha, _⟩ := vw_obj q w h1
  cases ru
  obtain ⟨mA, J, _⟩ := ins_get I.hok ha
  obtain ⟨od, J, _⟩ := J.look
  have sb : SubA X (k + 3) X.A := SubA.self hr
  refine PySem.W.kso_call sb.in1.in1.room.units0 I.kIn J hs hf ?_
  exact wpAny_mono (run_pure (vs := [.ref a]) (us := [.ref a]) (sb.in1.in1.mono (by omega)) Fn hb I q (.cons rfl .nil) (.cons w .nil) (by rw [hl]; rfl) (show F1 gp [x] S = .ok (.str z) S from by simp only [F1]; rw [h2]; rfl)) (fun w s' z => strBack z) fun _ _ z => z⟩
def gLenO (C : Addr) (gp : Sto → D → Option D) : GC := fun S ds => match ds with
  | [d] => (gOwn1 C gp S d).bind fun e => match e with
    | .int n => if 0 ≤ n ∧ n < 2 ^ 63 then some (.int n) else none
    | _ => none
  | _ => none
theorem gLenO_inv {gp : Sto → D → Option D} {S : Sto} {ds : List D} {d : D} (h : gLenO C gp S ds = some d) : ∃ x fs n, ds = [x] ∧ vw S x = .obj C fs ∧ gp S x = some (.int n) ∧ d = .int n ∧ 0 ≤ n ∧ n < 2 ^ 63 := by
  unfold gLenO at h
  split at h
  · rename_i x
    cases q : gOwn1 C gp S x with
    | none => rw [q] at h; cases h
    | some e =>
      rw [q] at h
      obtain ⟨fs, h1, h2⟩ := gOwn1_inv q
      cases e with
      | int n =>
        dsimp only [Option.bind] at h
        split at h
        · rename_i hn
          cases h
          exact ⟨x, fs, n, rfl, h1, h2, rfl, hn.1, hn.2⟩
        · cases h
      | _ => cases h
  · cases h
theorem cl_lenO {gp : Sto → D → Option D} (E : OneM X C "__len__" gp) : CallL X (.builtin "len") (gLenO C gp) := ⟨fun pins s σ H m S xs ds d us I q r rv e => by
  obtain ⟨k, f, fd, ps, Fn, hr, hb, hl, hs, hf⟩ := E.ex
  obtain ⟨x, fs, n, rfl, h1, h2, rfl, n0, n1⟩ := gLenO_inv e
  obtain ⟨v, rfl, w⟩ := r.one
  obtain ⟨u, rfl, ru⟩ := vals1 rv
  obtain ⟨a, dx, fs', rfl, ha, _⟩ := vw_obj q w h1
  cases ru
  obtain ⟨mA, J, _⟩ := ins_get I.hok ha
  obtain ⟨od, J, _⟩ := J.look
  have sb : SubA X (k + 3) X.A := SubA.self hr
  obtain ⟨mm, hF⟩ := I.fr
  refine PySem.W.len_K hF I.ok.mod.kin J hs hf ?_
  refine wpAny_mono (run_pure (vs := [.ref a]) (us := [.ref a]) (sb.in1.mono (by omega)) Fn hb I q (.cons rfl .nil) (.cons w .nil) (by rw [hl]; rfl) (show F1 gp [x] S = .ok (.int n) S from by simp only [F1]; rw [h2]; rfl)) (fun w s' z => ?_) fun _ _ z => z
  obtain ⟨vv, H', m', I', rv, e', x', w'⟩ := z
  cases w'
  obtain ⟨t, rfl⟩ := rv
  first
    | exact ⟨⟨n0, n1⟩, .int n, H', m', I'.tok _, ⟨_, rfl⟩, e', x', .int n⟩
    | exact ⟨⟨n0, n1⟩, .int n, H', m', I', ⟨_, rfl⟩, e', x', .int n⟩⟩
end
end MP

namespace MP
open PySem PySem.Spec PyProof.Rows L2

/-! ### f'..' -/
section
variable {X : Cx} {e : Expr} {es : List Expr} {l : LE} {pos : Pos}
def gFmt (S : Sto) (d : D) : Option D := match vw S d with
  | .str y => if y.length ≤ sizeLine then some (.str y) else none
  | .int i => if i.natAbs.log2 < 1920 then some (.str (toString i)) else none
  | _ => none
def lFmt (l : LE) : LE := fun ρ S => (l ρ S).bind fun d S1 => lift1 (gFmt S1 d) S1
abbrev LJ := Str → Ev → Sto → R Str
structure PJL (X : Cx) (es : List Expr) (l : LJ) : Prop where
  run : ∀ (acc : Str) (pins : List (Addr × Obj)) (s : Shared) (σ : L2.St) (H : Hp) (m : List Addr) (ρ : Ev) (S : Sto) (Rr : Str → Shared → Prop), acc.length ≤ sizeLine → Inv X pins σ H s → SR X.K m H S → ER X.K m H σ ρ → Hope X σ m H (l acc ρ S) →
    (∀ out S1 s1 H1 m1, l acc ρ S = .ok out S1 → out.length ≤ sizeLine → Inv X pins σ H1 s1 → Ext m H m1 H1 → SR X.K m1 H1 S1 → Rr out s1) → Joins (model X.prog X.w) X.A X.xe (evalEach es X.env) acc Rr s
def jNil : LJ := fun acc _ S => .ok acc S
def jCons (l : LE) (t : LJ) : LJ := fun acc ρ S => (l ρ S).bind fun d S1 => match d with
  | .str y => if (acc ++ y).length ≤ sizeLine then t (acc ++ y) ρ S1 else .bad
  | _ => .bad
def lJoin (t : LJ) : LE := fun ρ S => (t Str.empty ρ S).bind fun out S1 => .ok (.str out) S1
end

/-! ### methods of the built-in types -/
/-- the value and the store behind a method -/
abbrev GM := Sto → D → List D → Option (D × Sto)
structure MtL (X : Cx) (id : String) (g : GM) : Prop where
  run : ∀ (pins : List (Addr × Obj)) (s : Shared) (σ : L2.St) (H : Hp) (m : List Addr) (S S' : Sto) (x : V) (dx d : D) (xs : List V) (ds : List D) (v : Value) (us : List Value), Inv X pins σ H s → SR X.K m H S → VR X.K m H x dx → VRs X.K m H xs ds → RelV x v → Vals xs us → g S dx ds = some (d, S') →
    wpAny (model X.prog X.w) X.A (call (.builtin id) (v :: us)) (VP X pins σ m H d S') X.xe s
def isTy (T : String) (S : Sto) (d : D) : Bool := match vw S d with
  | .lst _ => T == "list"
  | .str _ => T == "str"
  | .dct _ _ => match d with
    | .ref _ => T == "dict"
    | _ => false
  | _ => false
theorem ty_of {X : Cx} {m : List Addr} {H : Hp} {S : Sto} {v : V} {d : D} {T : String} (x : SR X.K m H S) (r : VR X.K m H v d) (h : isTy T S d = true) : tyV X.K T v H := by
  unfold isTy at h
  split at h
  · rename_i xs q
    obtain ⟨a, vs, rfl, h1, _⟩ := vw_lst x r q
    exact .inl ⟨beq_iff_eq.mp h, vs, h1⟩
  · rename_i z q
    obtain rfl := vw_str r q
    exact beq_iff_eq.mp h
  · rename_i kvs q
    split at h
    · rename_i i
      cases r with
      | @ref _ a hm =>
        dsimp only [vw] at q
        cases q2 : S[i]? with
        | none => rw [q2] at q; cases q
        | some ob =>
          rw [q2] at q
          cases x.at_ i a ob hm q2 with
          | lst _ _ => cases q
          | ins _ _ => cases q
          | dct h1 _ => exact .inr (.inr (.inl ⟨beq_iff_eq.mp h, .inl ⟨_, h1⟩⟩))
          | dctT h1 _ => exact .inr (.inr (.inl ⟨beq_iff_eq.mp h, .inr ⟨_, h1⟩⟩))
    · cases h
  · cases h
def liftM (o : Option (D × Sto)) : R D := match o with
  | some (d, S) => .ok d S
  | none => .bad
def lBM (T : String) (g : GM) (lo : LE) (t : LA) : LE := fun ρ S => (lo ρ S).bind fun d S0 => if isTy T S0 d = true then (t ρ S0).bind fun ds S1 => liftM (g S1 d ds) else .bad
section
variable {X : Cx} {o e : Expr} {es : List Expr} {lo : LE} {t : LA} {name : Str} {apos cpos : Pos} {T id : String} {g : GM}
theorem pel_bm (pa : PlainAttrs T) (slot : Slot T name id) (hty : typeOf (.builtin id) = pure (.type "method_descriptor")) (hm : MtL X id g) (ho : PEL X o lo) (ha : PAL X (e :: es) t)
    (hbase : attributeBase o name X.env (eval o X.env) = eval o X.env := by rfl)
    (hfew : ((backTo cpos (starEach (e :: es) X.env)).all (fun x => !x.1) && (backToKw cpos (keywordEach [] X.env)).all (fun x => x.1.isSome)
      && decide ((e :: es).length + ([] : List Keyword).length + (if ([] : List Keyword).isEmpty then 0 else 1) < 30)) = true := by rfl)
    (hline : (apos.endLine == cpos.line) = true := by rfl) (hs : starEach (e :: es) X.env = (false, eval e X.env) :: starEach es X.env := by rfl) (hplain : (backTo cpos (starEach es X.env)).any (·.1) = false := by rfl) :
    PEL X (.Call (.Attribute o name apos) (e :: es) [] cpos) (lBM T g lo t) := by
  refine ⟨fun pins s σ H m ρ S I x r hp => ?_⟩
  refine wpAny_Call_method_late hbase hfew hline rfl (run_seq ho I x r hp fun d S0 q0 v u s1 H1 m1 I1 rv e1 x1 w1 r1 hp1 => ?_)
  have hc := hope_if hp1
  rw [if_pos hc] at hp1
  obtain ⟨h1, h2⟩ := tyV_is I1 rv (ty_of x1 w1 hc)
  refine ⟨T, id, pa, slot, hty, h1, h2, ?_⟩
  have hA : wpAny (model X.prog X.w) X.A (spliced (backTo cpos (starEach (e :: es) X.env))) (fun us s' => wpAny (model X.prog X.w) X.A (call (.builtin id) (u :: us)) (VPr X pins σ m H (lBM T g lo t ρ S)) X.xe s') X.xe s1 :=
    run_seqA ha I1 x1 r1 hp1 fun ds S1 q1 vs us s2 H2 m2 I2 rv2 e2 x2 w2 r2 hp2 => by
      cases q2 : g S1 d ds with
      | none => rw [q2] at hp2; exact absurd rfl hp2.1
      | some z =>
        obtain ⟨d', S'⟩ := z
        have e0 : lBM T g lo t ρ S = .ok d' S' := by unfold lBM; rw [q0, bind_ok, if_pos hc, q1, bind_ok, q2]; rfl
        rw [e0]
        exact thn (hm.run pins s2 σ H2 m2 S1 S' v d d' vs ds u us I2 x2 (w1.ext e2 x1.muts) w2 rv rv2 q2) fun _ _ z => (vpr_of z).left (e1.trans e2)
  rw [hs] at hA ⊢
  exact Calls.callWith_builtin (by show (false || (backTo cpos (starEach es X.env)).any (·.1)) = false; rw [hplain] <;> rfl) (Calls.evalArgs_plain hA)
theorem pel_bm0 (pa : PlainAttrs T) (slot : Slot T name id) (hty : typeOf (.builtin id) = pure (.type "method_descriptor")) (hm : MtL X id g) (ho : PEL X o lo)
    (hbase : attributeBase o name X.env (eval o X.env) = eval o X.env := by rfl) (hline : (apos.endLine == cpos.line) = true := by rfl) : PEL X (.Call (.Attribute o name apos) [] [] cpos) (lBM T g lo aNil) := by
  refine ⟨fun pins s σ H m ρ S I x r hp => ?_⟩
  refine wpAny_Call_method0_late hbase hline (run_seq ho I x r hp fun d S0 q0 v u s1 H1 m1 I1 rv e1 x1 w1 r1 hp1 => ?_)
  have hc := hope_if hp1
  rw [if_pos hc] at hp1
  obtain ⟨h1, h2⟩ := tyV_is I1 rv (ty_of x1 w1 hc)
  refine ⟨T, id, pa, slot, hty, h1, h2, Calls.callWith_builtin rfl (PySem.evalArgs_none ?_)⟩
  have hp2 : Hope X σ m1 H1 (liftM (g S0 d [])) := hp1
  cases q2 : g S0 d [] with
  | none => rw [q2] at hp2; exact absurd rfl hp2.1
  | some z =>
    obtain ⟨d', S'⟩ := z
    have e0 : lBM T g lo aNil ρ S = .ok d' S' := by unfold lBM; rw [q0, bind_ok, if_pos hc]; show liftM (g S0 d []) = _; rw [q2]; rfl
    rw [e0]
    exact thn (hm.run pins s1 σ H1 m1 S0 S' v d d' [] [] u [] I1 x1 w1 .nil rv .nil q2) fun _ _ z => (vpr_of z).left e1
end
section
variable {X : Cx}
def stApp : GM := fun S r ds => match r, ds with
  | .ref j, [y] => match S[j]? with
    | some (.lst xs) => if xs.length < sizeLine then some (.non, S.set j (.lst (xs ++ [y]))) else none
    | _ => none
  | _, _ => none
theorem mtl_append : MtL X "list.append" stApp := ⟨fun pins s σ H m S S' x dx d xs ds v us I q r rs rv rvs e => by
  unfold stApp at e
  split at e
  · rename_i j y
    split at e
    · rename_i l q1
      split at e
      · rename_i hz
        cases e
        obtain ⟨a, rfl, ha, orr⟩ := VR.ref_at q r q1
        obtain ⟨w, rfl, rw'⟩ := rs.one
        cases orr with
        | @lst vs _ hh rr =>
          obtain ⟨z1, z2⟩ := q.write (o' := .lst (vs ++ [w])) (ob' := .lst (l ++ [y])) ha fun e => .lst upd_same ((rr.append (.cons rw' .nil)).ext e q.muts)
          exact thn (mt_append pins s σ H (.ref a) [w] v us (fun v' H' => v' = .non ∧ H' = upd H a (.lst (vs ++ [w]))) I rv rvs ⟨a, vs, w, rfl, rfl, hh, by rw [rr.length]; exact hz, rfl, rfl⟩) fun _ s' ⟨v', H', I', rv', ev, eH⟩ => by
            subst ev; subst eH
            exact ⟨.non, _, m, I', rv', z1, z2, .non⟩
      · cases e
    · cases e
  · cases e⟩
def stPopAt : GM := fun S r ds => match r, ds with
  | .ref j, [.int i] => match S[j]? with
    | some (.lst xs) => if -(2 ^ 63) ≤ i ∧ i < 2 ^ 63 then (seqIndex? i xs.length).bind fun k => (xs[k]?).map fun y => (y, S.set j (.lst (xs.eraseIdx k))) else none
    | _ => none
  | _, _ => none
theorem list_append_ty : typeOf (.builtin "list.append") = (pure (.type "method_descriptor") : Sem Value) := PySem.F.type_list_append
theorem list_pop_ty : typeOf (.builtin "list.pop") = (pure (.type "method_descriptor") : Sem Value) := PySem.F.type_list_pop
theorem pel_append {o e : Expr} {lo : LE} {le : LE} {apos cpos : Pos} (ho : PEL X o lo) (he : PEL X e le)
    (hbase : attributeBase o "append" X.env (eval o X.env) = eval o X.env := by rfl)
    (hfew : ((backTo cpos (starEach [e] X.env)).all (fun x => !x.1) && (backToKw cpos (keywordEach [] X.env)).all (fun x => x.1.isSome)
      && decide ([e].length + ([] : List Keyword).length + (if ([] : List Keyword).isEmpty then 0 else 1) < 30)) = true := by rfl)
    (hline : (apos.endLine == cpos.line) = true := by rfl) (hs : starEach [e] X.env = (false, eval e X.env) :: starEach [] X.env := by rfl) :
    PEL X (.Call (.Attribute o "append" apos) [e] [] cpos) (lBM "list" stApp lo (aCons le aNil)) :=
  pel_bm PySem.F.plainAttrs_list PySem.F.slot_list_append list_append_ty mtl_append ho (pal_cons he pal_nil hs) hbase hfew hline hs
end
end MP

namespace MP
open PySem PySem.Spec PyProof.Rows L2

/-! ### keywords -/
structure PKL (X : Cx) (kws : List Keyword) (l : LA) : Prop where
  run : ∀ (pos : Pos) (pins : List (Addr × Obj)) (s : Shared) (σ : L2.St) (H : Hp) (m : List Addr) (ρ : Ev) (S : Sto), Inv X pins σ H s → SR X.K m H S → ER X.K m H σ ρ → Hope X σ m H (l ρ S) →
    wpAny (model X.prog X.w) X.A (evalAll ((backToKw pos (keywordEach kws X.env)).map (·.2))) (APr X pins σ m H (l ρ S)) X.xe s
section
variable {X : Cx} {e : Expr} {kws : List Keyword} {l : LE} {t : LA} {nm : Option Str} {kpos : Pos}
end
/-- the values in the parameters' order -/
def pick {α : Type} (p : List Nat) (xs : List α) : List α := p.filterMap fun i => xs[i]?
theorem VRs.pick {K : PySem.W.Frag} {m : List Addr} {H : Hp} {vs : List V} {ds : List D} (r : VRs K m H vs ds) : ∀ p : List Nat, VRs K m H (MP.pick p vs) (MP.pick p ds)
  | [] => .nil
  | i :: p => by
    unfold MP.pick
    cases q : ds[i]? with
    | none =>
      have h : vs[i]? = none := by
        rw [List.getElem?_eq_none_iff] at q ⊢
        rw [r.length]; exact q
      rw [List.filterMap_cons_none q, List.filterMap_cons_none h]
      exact VRs.pick r p
    | some d =>
      obtain ⟨u, hu, ru⟩ := r.getr q
      rw [List.filterMap_cons_some q, List.filterMap_cons_some hu]
      exact .cons ru (VRs.pick r p)
/-- how a call with n values by place and keywords ks binds: p the order, ds0 the values by default -/
structure KwB (K : PySem.W.Frag) (fd : FuncData) (ps : List Str) (n : Nat) (ks : List Str) (p : List Nat) (ds0 : List Value) : Prop where
  to : ∀ (s : Shared) (us ws : List Value), K.In s.heap → us.length = n → ws.length = ks.length → BindsTo s fd ⟨us, ks.zip ws⟩ (ps.zip (pick p (us ++ ws ++ ds0)))
  len : ∀ {α : Type} (xs : List α), xs.length = n + ks.length + ds0.length → (pick p xs).length = ps.length
section
variable {X : Cx} {e : Expr} {pos p : Pos} {es : List Expr} {kws : List Keyword} {t tk : LA} {x : Str} {k n : Nat} {f C : Addr} {fd : FuncData} {ps ks : List Str} {g : F}
/-- what is bound: the values by place, the keywords', those by default -/
def kwF (n m : Nat) (g : F) (pk : List Nat) (dd : List D) (ds es : List D) (S : Sto) : R D := if ds.length = n ∧ es.length = m then g (pick pk (ds ++ es ++ dd)) S else .bad
def lCallK (n m : Nat) (g : F) (pk : List Nat) (dd : List D) (t tk : LA) : LE := fun ρ S => (t ρ S).bind fun ds S1 => (tk ρ S1).bind fun es S2 => kwF n m g pk dd ds es S2
/-- C(k = v, ..): the values in the order of __init__'s parameters behind self; pk: where they stand, self being 0 -/
def kwM (m : Nat) (gn : F) (es : List D) (S : Sto) : R D := if es.length = m then gn es S else .bad
end
end MP

namespace MP
open PySem PySem.Spec PyProof.Rows L2
section
variable {X : Cx}
def gAdd : G2 := fun S x y => ((gAddI S x y).or (gAddS S x y)).or (gCat S x y)
theorem opl_add : OpL X (binaryOp .Add) gAdd := (opl_addI.or opl_addS).or opl_catT
theorem opl_mul : OpL X (binaryOp .Mult) gMulI := opl_mulI
end
end MP

namespace MP
open PySem PySem.Spec PyProof.Rows L2
theorem lg_lt {i : Int} {k : Nat} (h : i.natAbs < 2 ^ k) (hk : 0 < k) : i.natAbs.log2 < k := by
  by_cases z : i.natAbs = 0
  · rw [z]; simpa using hk
  · exact (Nat.log2_lt z).mpr h
theorem abs_lt {i : Int} {n : Nat} (h1 : -(n : Int) < i) (h2 : i < n) : i.natAbs < n := by omega
/-- a number of at most 600 figures -/
def Sm (i : Int) : Prop := -(10 ^ 250) < i ∧ i < 10 ^ 250
theorem Sm.lg {i : Int} (h : Sm i) : i.natAbs.log2 < 900 := by
  refine lg_lt (Nat.lt_of_lt_of_le (abs_lt (n := 10 ^ 250) ?_ ?_) (by decide +kernel)) (by decide)
  · have := h.1; simpa using this
  · have := h.2; simpa using this
theorem Sm.of {i : Int} (h0 : 0 ≤ i) {n : Int} (h1 : i < n) (hn : n ≤ 10 ^ 250) : Sm i := by
  have : (0 : Int) < 10 ^ 250 := by decide +kernel
  exact ⟨by omega, by omega⟩
theorem mul_ii {S : Sto} {i j : Int} (h : Sm i) (h' : Sm j) : gMulI S (.int i) (.int j) = some (.int (i * j)) := by
  have a := h.lg
  have b := h'.lg
  show (if i.natAbs.log2 + j.natAbs.log2 < 1000000 then some (D.int (i * j)) else none) = _
  rw [if_pos (by omega)]
theorem div_ii {S : Sto} {i j : Int} (h0 : 0 < j) (h : Sm j) : gDiv S (.int i) (.int j) = some (.int (i / j)) := by
  have a := h.lg
  show (if 0 < j ∧ j.natAbs.log2 < 9000 then some (D.int (i / j)) else none) = _
  rw [if_pos ⟨h0, by omega⟩]
theorem mod_ii {S : Sto} {i j : Int} (h0 : 0 < j) : gMod S (.int i) (.int j) = some (.int (i % j)) := by
  show (if 0 < j then some (D.int (i % j)) else none) = _
  rw [if_pos h0]
theorem pow_ii {S : Sto} {i j : Int} (h : 0 ≤ j ∧ j ≤ 1000000 ∧ i.natAbs < 2 ^ 64) : gPow S (.int i) (.int j) = some (.int (i ^ j.toNat)) := by
  show (if 0 ≤ j ∧ j ≤ 1000000 ∧ i.natAbs < 2 ^ 64 then some (D.int (i ^ j.toNat)) else none) = _
  rw [if_pos h]
theorem eq_ii {S : Sto} {i j : Int} : gEq S (.int i) (.int j) = some (.bl (decide (i = j))) := rfl
theorem ne_ii {S : Sto} {i j : Int} : gNe S (.int i) (.int j) = some (.bl (!decide (i = j))) := rfl
theorem eq_ss {S : Sto} {i j : Str} : gEq S (.str i) (.str j) = some (.bl (decide (i = j))) := rfl
theorem ne_ss {S : Sto} {i j : Str} : gNe S (.str i) (.str j) = some (.bl (!decide (i = j))) := rfl
/-! ### how the words compute -/
theorem bin_ok {g : G2} {la lb : LE} {ρ : Ev} {S S1 S2 : Sto} {x y d : D} (h1 : la ρ S = .ok x S1) (h2 : lb ρ S1 = .ok y S2) (h3 : g S2 x y = some d) : lBin g la lb ρ S = .ok d S2 := by
  unfold lBin; rw [h1, bind_ok, h2, bind_ok, h3]; rfl
theorem tru_ok {l : LE} {ρ : Ev} {S S1 : Sto} {d : D} {b : Bool} (h1 : l ρ S = .ok d S1) (h2 : truth S1 d = some b) : tTru l ρ S = .ok b S1 := by
  unfold tTru; rw [h1, bind_ok, h2]; rfl
theorem acons_ok {l : LE} {t : LA} {ρ : Ev} {S S1 S2 : Sto} {d : D} {ds : List D} (h1 : l ρ S = .ok d S1) (h2 : t ρ S1 = .ok ds S2) : aCons l t ρ S = .ok (d :: ds) S2 := by
  unfold aCons; rw [h1, bind_ok, h2]; rfl
theorem callb_ok {g : GC} {t : LA} {ρ : Ev} {S S1 : Sto} {d : D} {ds : List D} (h1 : t ρ S = .ok ds S1) (h2 : g S1 ds = some d) : lCallB g t ρ S = .ok d S1 := by
  unfold lCallB; rw [h1, bind_ok, h2]; rfl
theorem call_ok {g : F} {n : Nat} {t : LA} {ρ : Ev} {S S1 : Sto} {ds dd : List D} {r : R D} (h1 : t ρ S = .ok ds S1) (h2 : ds.length + dd.length = n) (h3 : g (ds ++ dd) S1 = r) : lCall n g dd t ρ S = r := by
  unfold lCall; rw [h1, bind_ok, if_pos h2, h3]
theorem tup_ok {t : LA} {ρ : Ev} {S S1 : Sto} {ds : List D} (h1 : t ρ S = .ok ds S1) (h : ds.length ≤ 1000) : lTup t ρ S = .ok (.tup ds) S1 := by
  unfold lTup; rw [h1, bind_ok, if_pos (Nat.le_trans h (by decide))]
theorem lst_ok {t : LA} {ρ : Ev} {S S1 : Sto} {ds : List D} (h1 : t ρ S = .ok ds S1) (h : ds.length ≤ 1000) : lLst t ρ S = .ok (.lst ds) S1 := by
  unfold lLst; rw [h1, bind_ok, if_pos (Nat.le_trans h (by decide))]
theorem lstN_ok {t : LA} {ρ : Ev} {S S1 : Sto} {ds : List D} (h1 : t ρ S = .ok ds S1) (h : ds.length ≤ 1000) : lLstN t ρ S = .ok (.ref S1.length) (S1 ++ [.lst ds]) := by
  unfold lLstN; rw [h1, bind_ok, if_pos (Nat.le_trans h (by decide))]
theorem fld_ok {C : Addr} {f : Str} {l : LE} {ρ : Ev} {S S1 : Sto} {d e : D} (h1 : l ρ S = .ok d S1) (h2 : gFld C f S1 d = some e) : lFld C f l ρ S = .ok e S1 := by
  unfold lFld; rw [h1, bind_ok, h2]; rfl
theorem set_ok {i : Nat} {l : LE} {ρ : Ev} {S S1 : Sto} {d : D} (h : l ρ S = .ok d S1) : lSet i l ρ S = .ok (.nx (ρ.set i (some d))) S1 := by
  unfold lSet; rw [h]; rfl
theorem ret_ok {l : LE} {ρ : Ev} {S S1 : Sto} {d : D} (h : l ρ S = .ok d S1) : lRet l ρ S = .ok (.rt d) S1 := by
  unfold lRet; rw [h]; rfl
theorem expr_ok {l : LE} {ρ : Ev} {S S1 : Sto} {d : D} (h : l ρ S = .ok d S1) : lExpr l ρ S = .ok (.nx ρ) S1 := by
  unfold lExpr; rw [h]; rfl
theorem seq_nx {l1 l2 : LS} {ρ ρ' : Ev} {S S1 : Sto} {r : R Fl} (h : l1 ρ S = .ok (.nx ρ') S1) (h2 : l2 ρ' S1 = r) : lSeq l1 l2 ρ S = r := by
  unfold lSeq; rw [h, bind_ok]; exact h2
theorem seq_rt {l1 l2 : LS} {ρ : Ev} {S S1 : Sto} {d : D} (h : l1 ρ S = .ok (.rt d) S1) : lSeq l1 l2 ρ S = .ok (.rt d) S1 := by
  unfold lSeq; rw [h, bind_ok]; rfl
theorem if_tt {tc : LT} {l1 l2 : LS} {ρ : Ev} {S S1 : Sto} {r : R Fl} (h : tc ρ S = .ok true S1) (h2 : l1 ρ S1 = r) : lIfS tc l1 l2 ρ S = r := by
  unfold lIfS; rw [h]; exact h2
theorem if_ff {tc : LT} {l1 l2 : LS} {ρ : Ev} {S S1 : Sto} {r : R Fl} (h : tc ρ S = .ok false S1) (h2 : l2 ρ S1 = r) : lIfS tc l1 l2 ρ S = r := by
  unfold lIfS; rw [h]; exact h2
theorem par_ok {i j : Nat} {t : LA} {ρ : Ev} {S S1 : Sto} {a b : D} (h : t ρ S = .ok [a, b] S1) : lPar i j t ρ S = .ok (.nx ((ρ.set i (some a)).set j (some b))) S1 := by
  unfold lPar; rw [h]; rfl
theorem stS_ok {g : Sto → D → D → D → Option Sto} {lo li le : LE} {ρ : Ev} {S S1 S2 S3 S4 : Sto} {d r k : D} (h1 : le ρ S = .ok d S1) (h2 : lo ρ S1 = .ok r S2) (h3 : li ρ S2 = .ok k S3) (h4 : g S3 r k d = some S4) : lStS g lo li le ρ S = .ok (.nx ρ) S4 := by
  unfold lStS; rw [h1]; show liftX ρ (lo ρ S1) _ = _; rw [h2]; show liftX ρ (li ρ S2) _ = _; rw [h3]; show liftS _ ρ = _; rw [h4]; rfl
theorem stF_ok {C : Addr} {f : Str} {lo le : LE} {ρ : Ev} {S S1 S2 S3 : Sto} {d r : D} (h1 : le ρ S = .ok d S1) (h2 : lo ρ S1 = .ok r S2) (h3 : stFld C f S2 r d = some S3) : lStF C f lo le ρ S = .ok (.nx ρ) S3 := by
  unfold lStF; rw [h1]; show liftX ρ (lo ρ S1) _ = _; rw [h2]; show liftS _ ρ = _; rw [h3]; rfl
theorem bm_ok {T : String} {g : GM} {lo : LE} {t : LA} {ρ : Ev} {S S1 S2 S3 : Sto} {d e : D} {ds : List D} (h1 : lo ρ S = .ok d S1) (h2 : isTy T S1 d = true) (h3 : t ρ S1 = .ok ds S2) (h4 : g S2 d ds = some (e, S3)) : lBM T g lo t ρ S = .ok e S3 := by
  unfold lBM; rw [h1, bind_ok, if_pos h2, h3, bind_ok, h4]; rfl
theorem meth_ok {C : Addr} {mn : Str} {n : Nat} {g : F} {lo : LE} {t : LA} {ρ : Ev} {S S1 S2 : Sto} {d : D} {ds dd : List D} {r : R D} (h1 : lo ρ S = .ok d S1) (h2 : recv C mn S1 d = true) (h3 : t ρ S1 = .ok ds S2) (h4 : (ds.length + dd.length) + 1 = n) (h5 : g (d :: (ds ++ dd)) S2 = r) : lMeth C mn n g dd lo t ρ S = r := by
  unfold lMeth; rw [h1, bind_ok, if_pos h2, h3, bind_ok, if_pos h4, h5]
theorem body_rt {n : Nat} {lb : LS} {ds : List D} {S S' : Sto} {d : D} (h : lb (ds.map some ++ List.replicate (n - ds.length) none) S = .ok (.rt d) S') : bodyF n lb ds S = .ok d S' := by
  unfold bodyF; rw [h]; rfl
theorem body_nx {n : Nat} {lb : LS} {ds : List D} {ρ : Ev} {S S' : Sto} (h : lb (ds.map some ++ List.replicate (n - ds.length) none) S = .ok (.nx ρ) S') : bodyF n lb ds S = .ok .non S' := by
  unfold bodyF; rw [h]; rfl
theorem and_tt {ta tb : LT} {ρ : Ev} {S S1 : Sto} {r : R Bool} (h : ta ρ S = .ok true S1) (h2 : tb ρ S1 = r) : tAnd ta tb ρ S = r := by
  unfold tAnd; rw [h, bind_ok, if_pos rfl]; exact h2
theorem and_ff {ta tb : LT} {ρ : Ev} {S S1 : Sto} (h : ta ρ S = .ok false S1) : tAnd ta tb ρ S = .ok false S1 := by
  unfold tAnd; rw [h, bind_ok]; rfl
theorem or_ff {ta tb : LT} {ρ : Ev} {S S1 : Sto} {r : R Bool} (h : ta ρ S = .ok false S1) (h2 : tb ρ S1 = r) : tOr ta tb ρ S = r := by
  unfold tOr; rw [h, bind_ok]; exact h2
theorem not_ok {ta : LT} {ρ : Ev} {S S1 : Sto} {b : Bool} (h : ta ρ S = .ok b S1) : tNot ta ρ S = .ok (!b) S1 := by
  unfold tNot; rw [h, bind_ok]
theorem for_go {ρ0 ρ ρ1 ρ' : Ev} {chk : Sto → Prop} {g : GT} {lb : LS} {d : D} {ds : List D} {S S1 : Sto} {r : R Fl} (hc : chk S) (hg : g d ρ = some ρ1) (h : lb ρ1 S = .ok (.nx ρ') S1) (h2 : forG ρ0 chk g lb ds (wk ρ0 ρ') S1 = r) : forG ρ0 chk g lb (d :: ds) ρ S = r := by
  unfold forG; rw [if_pos hc, hg]; show (lb ρ1 S).bind _ = _; rw [h, bind_ok]; exact h2
theorem for_end {ρ0 ρ : Ev} {chk : Sto → Prop} {g : GT} {lb : LS} {S : Sto} (hc : chk S) : forG ρ0 chk g lb [] ρ S = .ok (.nx ρ) S := by
  unfold forG; rw [if_pos hc]
theorem comp_end {ρ0 : Ev} {chk : Sto → Prop} {g : GT} {tt : LT} {te : LE} {S : Sto} (hc : chk S) : compG chk g tt te ρ0 [] S = .ok [] S := by
  unfold compG; rw [if_pos hc]
end MP

namespace MP
open PySem PySem.Spec PyProof.Rows L2
/-! ### more of how the words compute -/
theorem tru_b {l : LE} {ρ : Ev} {S S1 : Sto} {b b' : Bool} (h : l ρ S = .ok (.bl b) S1) (e : b = b') : tTru l ρ S = .ok b' S1 := e ▸ tru_ok h rfl
theorem ix_ref {S : Sto} {j : Nat} {xs : List D} {k : Int} {d : D} (h : S[j]? = some (.lst xs)) (h2 : atI xs k = some d) : gIx S (.ref j) (.int k) = some d := by
  unfold gIx
  have e : vw S (.ref j) = .lst xs := by unfold vw; dsimp only; rw [h]
  rw [e]; exact h2
theorem sub_ok {S : Sto} {j n : Nat} {xs : List D} {k : Int} {d : D} (h : S[j]? = some (.lst xs)) (h2 : ixN xs.length k = some n) : stSeq S (.ref j) (.int k) d = some (S.set j (.lst (xs.set n d))) := by
  unfold stSeq; dsimp only; rw [h]; dsimp only; rw [h2]; rfl
theorem app_ok {S : Sto} {j : Nat} {xs : List D} {d : D} (h : S[j]? = some (.lst xs)) (h2 : xs.length < 1000) : stApp S (.ref j) [d] = some (.non, S.set j (.lst (xs ++ [d]))) := by
  unfold stApp; dsimp only; rw [h]; dsimp only; rw [if_pos (Nat.lt_of_lt_of_le h2 (by decide))]
theorem last_at {S : Sto} {o : O} : (S ++ [o])[S.length]? = some o := by simp
theorem for_ok {li : LI} {g : GT} {lb : LS} {ρ : Ev} {S S1 : Sto} {it : Its'} {r : R Fl} (h : li ρ S = .ok it S1) (h2 : forG ρ it.chk g lb it.items ρ S1 = r) : lFor li g lb ρ S = r := by
  unfold lFor; rw [h]; exact h2
end MP

namespace MP
open PySem PySem.Spec PyProof.Rows L2
/-! ### the law's own draws: the pot -/
def Pot (n : Int) (S : Sto) (d : D) : Prop := ∃ (j i : Nat) (own : List Int) (seed cnt : Int), d = .ref j ∧ i ≠ j ∧ S[j]? = some (.lst [.ref i, .int seed, .int cnt]) ∧ S[i]? = some (.lst (own.map D.int)) ∧ own.length ≤ 63 ∧ (∀ z ∈ own, 0 ≤ z ∧ z < 10 ^ 120) ∧ 0 ≤ seed ∧ seed < 10 ^ 30 ∧ 0 ≤ cnt ∧ cnt ≤ n
theorem Pot.mono {n n' : Int} {S : Sto} {d : D} (h : Pot n S d) (hn : n ≤ n') : Pot n' S d := by
  obtain ⟨j, i, own, seed, cnt, h1, h2, h3, h4, h5, h6, h7, h8, h9, h10⟩ := h
  exact ⟨j, i, own, seed, cnt, h1, h2, h3, h4, h5, h6, h7, h8, h9, by omega⟩
def SBegin (g : F) : Prop := ∀ (S : Sto) (ns : List Int), ns.length ≤ 63 → ∃ d S', g [.lst (ns.map D.int)] S = .ok d S' ∧ Pot 0 S' d
def STake (g : F) : Prop := ∀ (n : Int) (S : Sto) (d : D) (wd : Int), Pot n S d → n < 10 ^ 30 → 0 < wd → wd < 10 ^ 200 → ∃ v S', g [d, .int wd] S = .ok (.int v) S' ∧ 0 ≤ v ∧ v < wd ∧ Pot (n + 1) S' d
def SOf (g : F) : Prop := ∀ (n : Int) (S : Sto) (d : D) (xs : List D), Pot n S d → n < 10 ^ 30 → xs ≠ [] → xs.length ≤ 1000 → ∃ y S', y ∈ xs ∧ g [d, .lst xs] S = .ok y S' ∧ Pot (n + 1) S' d
/-- the draws begin -/
def begStep : LS := (lSeq
              (lSet 1
                (lBin gMod
                  (lBin gAdd
                    (lBin gAdd (lBin gMulI (lVar 1) (lC (D.int 1000003)))
                      (lBin gMod (lVar 4) (lBin gPow (lC (D.int 10)) (lC (D.int 30)))))
                    (lBin gMulI (lC (D.int 31)) (lVar 3)))
                  (lC (D.int 2305843009213693951))))
              (lIfS (tTru (lBin gGeI (lCallB gAbs (aCons (lVar 4) aNil)) (lBin gPow (lC (D.int 10)) (lC (D.int 18)))))
                (lExpr
                  (lBM "list" stApp (lVar 2)
                    (aCons
                      (lBin gMod (lCallB gAbs (aCons (lVar 4) aNil))
                        (lBin gMulI (lBin gPow (lC (D.int 10)) (lC (D.int 60)))
                          (lBin gPow (lC (D.int 10)) (lC (D.int 60)))))
                      aNil)))
                lNext))
def begG : GT := gtTup 2 (gtCons (gtName 3) (gtCons (gtName 4) gtNil))
/-! ### a draw -/
def tkT : LT := (MP.tAnd (tTru (lBin gNe (lBin gIx (lVar 0) (lC (D.int 0))) (lLst aNil)))
            (tTru (lBin gEq (lBin gIx (lBin gIx (lVar 0) (lC (D.int 0))) (lC (D.int 0))) (lC (D.int 0)))))
def tkB : LS := (lExpr (lBM "list" stPopAt (lBin gIx (lVar 0) (lC (D.int 0))) (aCons (lC (D.int 0)) aNil)))
end MP

namespace MP
open PySem PySem.Spec PyProof.Rows L2
theorem iter_ok {l : LE} {ρ : Ev} {S S1 : Sto} {d : D} {it : Its'} (h : l ρ S = .ok d S1) (h2 : iterOf S1 d = some it) : lIter l ρ S = .ok it S1 := by
  unfold lIter; rw [h, bind_ok, h2]; rfl
end MP

namespace MP
open PySem PySem.Spec PyProof.Rows L2

/-! ### dicts -/
def keyOf : D → Option Key
  | .int i => some (.inl i)
  | .str s => some (.inr s)
  | _ => none
def keysOf : List D → Option (List Key)
  | [] => some []
  | x :: r => (keyOf x).bind fun k => (keysOf r).map fun ks => k :: ks
/-- a key of a dict; t: its keys are tuples -/
def kOf (t : Bool) (d : D) : Option (List Key) := match t with
  | false => (keyOf d).map fun k => [k]
  | true => match d with
    | .tup xs => keysOf xs
    | _ => none
def kD (t : Bool) (ks : List Key) : D := match t with
  | false => match ks with
    | k :: _ => keyD k
    | [] => .non
  | true => .tup (ks.map keyD)
def lookD (t : Bool) : List (D × D) → List Key → Option D
  | [], _ => none
  | (x, d) :: r, ks => if kOf t x = some ks then some d else lookD t r ks
def putDD (t : Bool) (kvs : List (D × D)) (ks : List Key) (d : D) : List (D × D) := if (lookD t kvs ks).isSome = true then kvs.map (fun q => if kOf t q.1 = some ks then (q.1, d) else q) else kvs ++ [(kD t ks, d)]
theorem keyOf_keyD (k : Key) : keyOf (keyD k) = some k := by cases k <;> rfl
theorem keysOf_map : ∀ ks : List Key, keysOf (ks.map keyD) = some ks
  | [] => rfl
  | k :: ks => by simp [keysOf, keyOf_keyD, keysOf_map ks]
theorem keyOf_inv {d : D} {k : Key} (h : keyOf d = some k) : d = keyD k := by
  cases d <;> simp only [keyOf] at h <;> cases h <;> rfl
theorem keysOf_inv : ∀ {ds : List D} {ks : List Key}, keysOf ds = some ks → ds = ks.map keyD
  | [], ks, h => by simp only [keysOf] at h; cases h; rfl
  | x :: r, ks, h => by
    simp only [keysOf] at h
    cases q : keyOf x with
    | none => rw [q] at h; cases h
    | some k =>
      rw [q] at h
      cases q2 : keysOf r with
      | none => rw [q2] at h; cases h
      | some ks' =>
        rw [q2] at h
        cases h
        rw [keyOf_inv q, keysOf_inv q2]
        rfl
section
variable {K : PySem.W.Frag} {m : List Addr} {H : Hp}
theorem VR.key {v : V} {d : D} {k : Key} (r : VR K m H v d) (h : keyOf d = some k) : v = kV k := by
  have e := keyOf_inv h
  subst e
  cases k with
  | inl i => cases r; rfl
  | inr s => cases r; rfl
theorem VRs.keys : ∀ {vs : List V} {ks : List Key}, VRs K m H vs (ks.map keyD) → vs = ks.map kV
  | _, [], .nil => rfl
  | _, k :: ks, .cons h r => by rw [h.key (keyOf_keyD k), r.keys]; rfl
theorem kf1 {k k' : Key} : kOf false (keyD k') = some [k] ↔ k' = k := by
  show (keyOf (keyD k')).map (fun k => [k]) = some [k] ↔ _
  rw [keyOf_keyD]
  simp
theorem kf2 {k k' : List Key} : kOf true (.tup (k'.map keyD)) = some k ↔ k' = k := by
  show keysOf (k'.map keyD) = some k ↔ _
  rw [keysOf_map]
  simp
theorem VDk.look {vs : List (Key × V)} {ds : List (D × D)} (r : VDk K m H vs ds) (k : Key) : (∀ d, lookD false ds [k] = some d → ∃ v, valV vs k = some v ∧ VR K m H v d) ∧ (lookD false ds [k] = none → valV vs k = none) := by
  induction vs generalizing ds with
  | nil => cases r; exact ⟨fun d h => by simp [lookD] at h, fun _ => rfl⟩
  | cons p vs ih =>
    cases r with
    | @cons k' v d vs ds h r =>
      simp only [lookD]
      by_cases e : k' = k
      · rw [if_pos (kf1.mpr e), valV_pos (p := (k', v)) e]
        exact ⟨fun d' z => by cases z; exact ⟨v, rfl, h⟩, fun z => by cases z⟩
      · rw [if_neg (fun z => e (kf1.mp z)), valV_neg (p := (k', v)) e]
        exact ih r
theorem VDt.look {vs : List (List Key × V)} {ds : List (D × D)} (r : VDt K m H vs ds) (k : List Key) : (∀ d, lookD true ds k = some d → ∃ v, valV vs k = some v ∧ VR K m H v d) ∧ (lookD true ds k = none → valV vs k = none) := by
  induction vs generalizing ds with
  | nil => cases r; exact ⟨fun d h => by simp [lookD] at h, fun _ => rfl⟩
  | cons p vs ih =>
    cases r with
    | @cons k' v d vs ds h r =>
      simp only [lookD]
      by_cases e : k' = k
      · rw [if_pos (kf2.mpr e), valV_pos (p := (k', v)) e]
        exact ⟨fun d' z => by cases z; exact ⟨v, rfl, h⟩, fun z => by cases z⟩
      · rw [if_neg (fun z => e (kf2.mp z)), valV_neg (p := (k', v)) e]
        exact ih r
theorem VDk.some_iff {vs : List (Key × V)} {ds : List (D × D)} (r : VDk K m H vs ds) (k : Key) : (lookD false ds [k]).isSome = (valV vs k).isSome := by
  obtain ⟨h1, h2⟩ := r.look k
  cases q : lookD false ds [k] with
  | none => rw [h2 q]; rfl
  | some d => obtain ⟨v, e, _⟩ := h1 d q; rw [e]; rfl
theorem VDt.some_iff {vs : List (List Key × V)} {ds : List (D × D)} (r : VDt K m H vs ds) (k : List Key) : (lookD true ds k).isSome = (valV vs k).isSome := by
  obtain ⟨h1, h2⟩ := r.look k
  cases q : lookD true ds k with
  | none => rw [h2 q]; rfl
  | some d => obtain ⟨v, e, _⟩ := h1 d q; rw [e]; rfl
theorem VDk.mapP {v : V} {d : D} (k : Key) (h : VR K m H v d) : ∀ {vs : List (Key × V)} {ds : List (D × D)}, VDk K m H vs ds → VDk K m H (vs.map fun kv => if kv.1 = k then (kv.1, v) else kv) (ds.map fun q => if kOf false q.1 = some [k] then (q.1, d) else q)
  | _, _, .nil => .nil
  | _, _, @VDk.cons _ _ _ k' w e vs ds h' r => by
    simp only [List.map_cons]
    by_cases z : k' = k
    · rw [if_pos z, if_pos (kf1.mpr z)]; exact .cons h (r.mapP k h)
    · rw [if_neg z, if_neg (fun y => z (kf1.mp y))]; exact .cons h' (r.mapP k h)
theorem VDt.mapP {v : V} {d : D} (k : List Key) (h : VR K m H v d) : ∀ {vs : List (List Key × V)} {ds : List (D × D)}, VDt K m H vs ds → VDt K m H (vs.map fun kv => if kv.1 = k then (kv.1, v) else kv) (ds.map fun q => if kOf true q.1 = some k then (q.1, d) else q)
  | _, _, .nil => .nil
  | _, _, @VDt.cons _ _ _ k' w e vs ds h' r => by
    simp only [List.map_cons]
    by_cases z : k' = k
    · rw [if_pos z, if_pos (kf2.mpr z)]; exact .cons h (r.mapP k h)
    · rw [if_neg z, if_neg (fun y => z (kf2.mp y))]; exact .cons h' (r.mapP k h)
theorem VDk.snoc {v : V} {d : D} (k : Key) (h : VR K m H v d) : ∀ {vs : List (Key × V)} {ds : List (D × D)}, VDk K m H vs ds → VDk K m H (vs ++ [(k, v)]) (ds ++ [(keyD k, d)])
  | _, _, .nil => .cons h .nil
  | _, _, .cons h' r => .cons h' (r.snoc k h)
theorem VDt.snoc {v : V} {d : D} (k : List Key) (h : VR K m H v d) : ∀ {vs : List (List Key × V)} {ds : List (D × D)}, VDt K m H vs ds → VDt K m H (vs ++ [(k, v)]) (ds ++ [(.tup (k.map keyD), d)])
  | _, _, .nil => .cons h .nil
  | _, _, .cons h' r => .cons h' (r.snoc k h)
theorem VDk.put {v : V} {d : D} (k : Key) (h : VR K m H v d) {vs : List (Key × V)} {ds : List (D × D)} (r : VDk K m H vs ds) : VDk K m H (putK vs k v) (putDD false ds [k] d) := by
  unfold putK putDD
  rw [r.some_iff k, valV_any]
  by_cases z : (valV vs k).isSome = true
  · rw [if_pos z, if_pos z]; exact r.mapP k h
  · rw [if_neg z, if_neg z]; exact r.snoc k h
theorem VDt.put {v : V} {d : D} (k : List Key) (h : VR K m H v d) {vs : List (List Key × V)} {ds : List (D × D)} (r : VDt K m H vs ds) : VDt K m H (putK vs k v) (putDD true ds k d) := by
  unfold putK putDD
  rw [r.some_iff k, valV_any]
  by_cases z : (valV vs k).isSome = true
  · rw [if_pos z, if_pos z]; exact r.mapP k h
  · rw [if_neg z, if_neg z]; exact r.snoc k h
theorem VDk.length {vs : List (Key × V)} {ds : List (D × D)} : VDk K m H vs ds → vs.length = ds.length
  | .nil => rfl
  | .cons _ r => by simp [r.length]
theorem VDt.length {vs : List (List Key × V)} {ds : List (D × D)} : VDt K m H vs ds → vs.length = ds.length
  | .nil => rfl
  | .cons _ r => by simp [r.length]
variable {S : Sto}
/-- a dict, of the store or not -/
theorem vw_dct (x : SR K m H S) {v : V} {d : D} {t : Bool} {kvs : List (D × D)} (r : VR K m H v d) (e : vw S d = .dct t kvs) : ∃ a, v = .ref a ∧ ((t = false ∧ ∃ vs, H a = some (.dK vs) ∧ VDk K m H vs kvs) ∨ (t = true ∧ ∃ vs, H a = some (.dT vs) ∧ VDt K m H vs kvs)) := by
  cases r with
  | @ref i a h =>
    dsimp only [vw] at e
    cases q : S[i]? with
    | none => rw [q] at e; cases e
    | some ob =>
      rw [q] at e
      cases x.at_ i a ob h q with
      | lst _ _ => cases e
      | ins _ _ => cases e
      | dct h r => cases e; exact ⟨a, rfl, .inl ⟨rfl, _, h, r⟩⟩
      | dctT h r => cases e; exact ⟨a, rfl, .inr ⟨rfl, _, h, r⟩⟩
  | dct n h r => cases e; exact ⟨_, rfl, .inl ⟨rfl, _, h, r⟩⟩
  | dctT n h r => cases e; exact ⟨_, rfl, .inr ⟨rfl, _, h, r⟩⟩
  | _ => cases e
theorem dget_of (x : SR K m H S) {v y : V} {d dy : D} {t : Bool} {kvs : List (D × D)} {ks : List Key} (r : VR K m H v d) (e : vw S d = .dct t kvs) (ry : VR K m H y dy) (hk : kOf t dy = some ks) :
    ∃ a o, v = .ref a ∧ DGet H a y o ∧ (∀ d', lookD t kvs ks = some d' → ∃ v', o = some v' ∧ VR K m H v' d') ∧ (lookD t kvs ks = none → o = none) := by
  obtain ⟨a, rfl, h⟩ := vw_dct x r e
  rcases h with ⟨rfl, vs, h, rr⟩ | ⟨rfl, vs, h, rr⟩
  · simp only [kOf] at hk
    cases q : keyOf dy with
    | none => rw [q] at hk; cases hk
    | some k =>
      rw [q] at hk
      cases hk
      obtain rfl := ry.key q
      obtain ⟨h1, h2⟩ := rr.look k
      exact ⟨a, _, rfl, .k h, h1, h2⟩
  · simp only [kOf] at hk
    cases ry with
    | @tup b ws ds hb rs =>
      dsimp only at hk
      have e2 := keysOf_inv hk
      subst e2
      obtain rfl := rs.keys
      obtain ⟨h1, h2⟩ := rr.look ks
      exact ⟨a, _, rfl, .t h hb, h1, h2⟩
    | _ => cases hk
end
section
variable {X : Cx}
def gDix : G2 := fun S x y => match vw S x with
  | .dct t kvs => (kOf t y).bind fun ks => lookD t kvs ks
  | _ => none
theorem ixl_dct (hu : X.A.units + 64 < cLine) : IxL X gDix := ⟨fun value slice pins s σ H m S x y dx dy d v u I q rx ry ex ey e hs => by
  unfold gDix at e
  split at e
  · rename_i t kvs qv
    cases hk : kOf t dy with
    | none => rw [hk] at e; cases e
    | some ks =>
      rw [hk] at e
      obtain ⟨a, o, rfl, g, h1, h2⟩ := dget_of q rx qv ry hk
      obtain ⟨v', rfl, w⟩ := h1 d e
      obtain rfl : v = Value.ref a := ex
      exact tail_any (dict_typeIs I g) PySem.F.slot_dict_getitem.lookup (d_getItem (by omega) I g ey fun w' s' I' rw' => ⟨v', H, m, I', rw', Ext.refl, q, w⟩) (hs _ _)
  · cases e⟩
def gDin : G2 := fun S y x => match vw S x with
  | .dct t kvs => (kOf t y).map fun ks => .bl (lookD t kvs ks).isSome
  | _ => none
def gDnotin : G2 := fun S y x => match vw S x with
  | .dct t kvs => (kOf t y).map fun ks => .bl (!(lookD t kvs ks).isSome)
  | _ => none
theorem opl_din (hu : X.A.units + 64 < cLine) : OpL X (compareOp .In) gDin := ⟨fun pins s σ H m S y x dy dx d u v I q ry rx ey ex e => by
  unfold gDin at e
  split at e
  · rename_i t kvs qv
    cases hk : kOf t dy with
    | none => rw [hk] at e; cases e
    | some ks =>
      rw [hk] at e
      cases e
      obtain ⟨a, o, rfl, g, h1, h2⟩ := dget_of q rx qv ry hk
      obtain rfl : v = Value.ref a := ex
      have e2 : o.isSome = (lookD t kvs ks).isSome := by
        cases z : lookD t kvs ks with
        | none => rw [h2 z]; rfl
        | some d' => obtain ⟨v', rfl, _⟩ := h1 d' z; rfl
      exact d_in (by omega) I g ey fun s' I' => ⟨.bl o.isSome, H, m, I', rfl, Ext.refl, q, by rw [e2]; exact .bl _⟩
  · cases e⟩
theorem opl_dnotin (hu : X.A.units + 64 < cLine) : OpL X (compareOp .NotIn) gDnotin := ⟨fun pins s σ H m S y x dy dx d u v I q ry rx ey ex e => by
  unfold gDnotin at e
  split at e
  · rename_i t kvs qv
    cases hk : kOf t dy with
    | none => rw [hk] at e; cases e
    | some ks =>
      rw [hk] at e
      cases e
      obtain ⟨a, o, rfl, g, h1, h2⟩ := dget_of q rx qv ry hk
      obtain rfl : v = Value.ref a := ex
      have e2 : o.isSome = (lookD t kvs ks).isSome := by
        cases z : lookD t kvs ks with
        | none => rw [h2 z]; rfl
        | some d' => obtain ⟨v', rfl, _⟩ := h1 d' z; rfl
      exact d_notIn (by omega) I g ey fun s' I' => ⟨.bl (!o.isSome), H, m, I', rfl, Ext.refl, q, by rw [e2]; exact .bl _⟩
  · cases e⟩
def stDct (S : Sto) (r i d : D) : Option Sto := match r with
  | .ref j => match S[j]? with
    | some (.dct t kvs) => if kvs.length < sizeLine then (kOf t i).map fun ks => S.set j (.dct t (putDD t kvs ks d)) else none
    | _ => none
  | _ => none
theorem psetl_dct (hu : X.A.units + 64 < cLine) : PSetL X stDct := ⟨fun pins s σ H m S S' o i v d1 d2 d3 ov iv u I x r1 r2 r3 e1 e2 e3 q => by
  unfold stDct at q
  split at q
  · rename_i j
    split at q
    · rename_i t kvs q1
      split at q
      · rename_i hz
        cases hk : kOf t d2 with
        | none => rw [hk] at q; cases q
        | some ks =>
          rw [hk] at q
          cases q
          obtain ⟨a, rfl, ha, orr⟩ := VR.ref_at x r1 q1
          obtain rfl : ov = Value.ref a := e1
          cases orr with
          | @dct vs _ hh rr =>
            simp only [kOf] at hk
            cases qk : keyOf d2 with
            | none => rw [qk] at hk; cases hk
            | some k =>
              rw [qk] at hk
              cases hk
              obtain rfl := r2.key qk
              obtain ⟨z1, z2⟩ := x.write (o' := .dK (putK vs k v)) (ob' := .dct false (putDD false kvs [k] d3)) ha fun e => .dct upd_same ((rr.put k r3).ext e x.muts)
              exact d_setItem (by omega) I (.k hh (by rw [rr.length]; exact hz)) e2 e3 fun s' I' => ⟨_, m, I', z1, z2⟩
          | @dctT vs _ hh rr =>
            simp only [kOf] at hk
            cases r2 with
            | @tup b ws ds hb rs =>
              dsimp only at hk
              have e2' := keysOf_inv hk
              subst e2'
              obtain rfl := rs.keys
              obtain ⟨z1, z2⟩ := x.write (o' := .dT (putK vs ks v)) (ob' := .dct true (putDD true kvs ks d3)) ha fun e => .dctT upd_same ((rr.put ks r3).ext e x.muts)
              exact d_setItem (by omega) I (.t hh hb (by rw [rr.length]; exact hz)) e2 e3 fun s' I' => ⟨_, m, I', z1, z2⟩
            | _ => cases hk
      · cases q
    · cases q
  · cases q⟩
/-- {} -/
def lDctN (t : Bool) : LE := fun _ S => .ok (.ref S.length) (S ++ [.dct t []])
def lDct (t : Bool) : LE := fun _ S => .ok (.dct t []) S
theorem pel_dctK {pos : Pos} : PEL X (.Dict [] [] pos) (lDct false) := .of_pe pe_dnewK fun σ H m ρ S x er hp p hn => ⟨_, _, rfl, qv_new x hn (.dct (x.nin hn) upd_same .nil)⟩
theorem pel_dctT {pos : Pos} : PEL X (.Dict [] [] pos) (lDct true) := .of_pe pe_dnewT fun σ H m ρ S x er hp p hn => ⟨_, _, rfl, qv_new x hn (.dctT (x.nin hn) upd_same .nil)⟩
end
end MP

namespace MP
open PySem PySem.Spec PyProof.Rows L2

/-! ### sorted -/
def encD (d : D) : PyData := (toPD d).getD .none
def leD (a b : D) : Bool := PySem.W.dataLe false encD a b
def headT : PyData → Bool
  | .tuple (_ :: _) => true
  | _ => false
def plainT : PyData → Bool
  | .none => false
  | .tuple _ => false
  | _ => true
def srtOk (xs : List D) : Bool := xs.all (fun x => (toPD x).isSome) && (xs.all fun x => xs.all fun y => PySem.W.alike (encD x) (encD y)) && (xs.all (fun x => headT (encD x)) || xs.all fun x => plainT (encD x)) && xs.all (fun x => decide ((encD x).depth ≤ 50)) && decide (xs.length ≤ sizeLine)
theorem srtOk_inv {xs : List D} (h : srtOk xs = true) : (∀ x ∈ xs, toPD x = some (encD x)) ∧ PySem.W.AllAlike (xs.map encD) ∧ PySem.W.Sortable (xs.map encD) ∧ (∀ x ∈ xs, (encD x).depth ≤ 50) ∧ xs.length ≤ sizeLine := by
  unfold srtOk at h
  simp only [Bool.and_eq_true, List.all_eq_true, decide_eq_true_eq, Bool.or_eq_true] at h
  obtain ⟨⟨⟨⟨h1, h2⟩, h3⟩, h4⟩, h5⟩ := h
  refine ⟨fun x hx => ?_, fun d hd d' hd' => ?_, ?_, h4, h5⟩
  · unfold encD
    cases q : toPD x with
    | none => have := h1 x hx; rw [q] at this; cases this
    | some p => rfl
  · obtain ⟨x, hx, rfl⟩ := List.mem_map.mp hd
    obtain ⟨y, hy, rfl⟩ := List.mem_map.mp hd'
    exact h2 x hx y hy
  · rcases h3 with h3 | h3
    · refine .inl fun d hd => ?_
      obtain ⟨x, hx, rfl⟩ := List.mem_map.mp hd
      have := h3 x hx
      unfold headT at this
      split at this
      · exact ⟨_, _, ‹_›⟩
      · cases this
    · refine .inr fun d hd => ?_
      obtain ⟨x, hx, rfl⟩ := List.mem_map.mp hd
      have := h3 x hx
      refine ⟨fun z => ?_, fun ys z => ?_⟩
      · rw [z] at this; cases this
      · rw [z] at this; cases this
def IsV (K : PySem.W.Frag) (m : List Addr) (H : Hp) (v : Value) (d : D) : Prop := ∃ x, RelV x v ∧ VR K m H x d
theorem each_isV {K : PySem.W.Frag} {m : List Addr} {H : Hp} : ∀ {vs : List V} {us : List Value} {ds : List D}, Vals vs us → VRs K m H vs ds → PySem.W.EachIs (IsV K m H) us ds
  | _, _, _, .nil, .nil => .nil
  | _, _, _, .cons r t, .cons w z => .cons ⟨_, r, w⟩ (each_isV t z)
theorem of_each {K : PySem.W.Frag} {m : List Addr} {H : Hp} : ∀ {us : List Value} {ds : List D}, PySem.W.EachIs (IsV K m H) us ds → ∃ vs, Vals vs us ∧ VRs K m H vs ds
  | _, _, .nil => ⟨[], .nil, .nil⟩
  | _, _, .cons ⟨x, r, w⟩ t => by
    obtain ⟨vs, h1, h2⟩ := of_each t
    exact ⟨x :: vs, .cons r h1, .cons w h2⟩
section
variable {X : Cx} {pins : List (Addr × Obj)} {σ : L2.St} {H : Hp} {s : Shared} {m : List Addr} {S : Sto}
theorem each_reads (I : Inv X pins σ H s) {vs : List V} {us : List Value} {ds : List D} (r : Vals vs us) (w : VRs X.K m H vs ds) (h : ∀ x ∈ ds, toPD x = some (encD x)) : PySem.W.EachIs (fun v b => ∃ as, Reads s.heap v (encD b) as) us ds := by
  induction r generalizing ds with
  | nil => cases w; exact .nil
  | cons r t ih =>
    cases w with
    | cons w z => exact .cons (Dp.reads I _ _ _ (w.dp (h _ (by simp))) r) (ih z fun x hx => h x (by simp [hx]))
def gSorted : GC := fun S ds => match ds with
  | [d] => match vw S d with
    | .lst xs => if srtOk xs = true then some (.lst (xs.mergeSort leD)) else none
    | _ => none
  | _ => none
theorem cl_sorted (hu : X.A.units + 64 < cLine) : CallL X (.builtin "sorted") gSorted := ⟨fun pins s σ H m S xs ds d us I q r rv e => by
  unfold gSorted at e
  split at e
  · split at e
    · rename_i l qv
      split at e
      · rename_i hk
        cases e
        obtain ⟨h1, h2, h3, h4, h5⟩ := srtOk_inv hk
        obtain ⟨v, rfl, w⟩ := r.one
        obtain ⟨a, vs, rfl, hs, rr⟩ := vw_lst q w qv
        obtain ⟨its, rv2, hl, hz⟩ := I.list hs
        rw [Vals.ref1 rv]
        refine PySem.W.sorted_data (R := IsV X.K m H) hl.isList (each_isV rv2 rr) (each_reads I rv2 rr h1) h2 h3 h5 (fun b hb => by have := h4 b hb; omega) fun out ho hE => ?_
        obtain ⟨ws, k1, k2⟩ := of_each hE
        obtain ⟨ep, he'⟩ := PyProof.Rows.sortedAll_at s.heap its (List.toArray out)
        have hn : H (s.heap.objs.size + 1) = none := I.hok.fresh (Nat.le_succ _)
        refine ⟨.ref (s.heap.objs.size + 1), upd H (s.heap.objs.size + 1) (.lst ws), m, I.laid (t' := s.toks) (fun _ _ => PyProof.Rows.sortedAll_old) (Nat.le_succ _) ⟨by rw [k1.length, ho]; exact h5, out, ep, k1, he'⟩, rfl, Ext.fresh hn, q.fresh hn, ?_⟩
        exact vr_newLst q hn k2
      · cases e
    · cases e
  · cases e⟩
end
end MP

namespace MP
open PySem PySem.Spec PyProof.Rows L2

/-! ### the keys of a dict -/
section
variable {X : Cx} {pins : List (Addr × Obj)} {σ : L2.St} {H : Hp} {s : Shared} {m : List Addr} {S : Sto}
theorem VDk.keysR {K : PySem.W.Frag} {m : List Addr} {H : Hp} : ∀ {vs : List (Key × V)} {ds : List (D × D)}, VDk K m H vs ds → VRs K m H (vs.map fun p => kV p.1) (ds.map (·.1))
  | _, _, .nil => .nil
  | _, _, @VDk.cons _ _ _ k v d vs ds h r => by
    refine .cons ?_ r.keysR
    cases k with
    | inl i => exact .int i
    | inr s => exact .str s
theorem VRs.kVs {K : PySem.W.Frag} {m : List Addr} {H : Hp} : ∀ ks : List Key, VRs K m H (ks.map kV) (ks.map keyD)
  | [] => .nil
  | .inl i :: ks => .cons (.int i) (VRs.kVs ks)
  | .inr s :: ks => .cons (.str s) (VRs.kVs ks)
theorem VDt.keysR {K : PySem.W.Frag} {m : List Addr} {H : Hp} : ∀ {vs : List (List Key × V)} {ds : List (D × D)} {bs : List Addr}, VDt K m H vs ds → IsKeys H vs bs → VRs K m H (bs.map V.ref) (ds.map (·.1))
  | _, _, _, .nil, .nil => .nil
  | _, _, _, @VDt.cons _ _ _ k v d vs ds h r, .cons hb t => .cons (.tup hb (VRs.kVs k)) (r.keysR t)
theorem dict_src (I : Inv X pins σ H s) (x : SR X.K m H S) {v : V} {d : D} {t : Bool} {kvs : List (D × D)} (r : VR X.K m H v d) (e : vw S d = .dct t kvs) :
    ∃ (a : Addr) (P : Nat → Value → Prop) (OK : Heap → Prop), v = .ref a ∧ PySem.W.KdlSrc X.prog X.w "dict" a a kvs.length P OK ∧ OK s.heap ∧ kvs.length ≤ sizeLine ∧
      ∀ acc, ItemsOf P acc kvs.length → ∃ ks, Vals ks acc.toList ∧ VRs X.K m H ks (kvs.map (·.1)) := by
  obtain ⟨a, rfl, h⟩ := vw_dct x r e
  rcases h with ⟨rfl, vs, h, rr⟩ | ⟨rfl, vs, h, rr⟩
  · obtain ⟨z, lo, us, rk, hd⟩ := (show ObjOk X.prog X.w H s.heap a (.dK vs) from I.hok a _ h)
    obtain ⟨ep, hat⟩ := hd.dictAt
    have hl : vs.length = us.length := Paired.length rk
    have hl2 := rr.length
    have src := PySem.W.kdl_dict (knd := mixKind X.prog X.w) (kvs := us) (ep := ep) lo
    rw [← hl, hl2] at src
    refine ⟨a, _, _, rfl, src, hat, by rw [← hl2]; exact z, fun acc it => ⟨_, ?_, rr.keysR⟩⟩
    have e1 : (vs.map fun p => kV p.1) = us.map fun p => kV p.1 := by
      have := KV.keys rk
      have e2 : (vs.map fun p => kV p.1) = (vs.map (·.1)).map kV := by rw [List.map_map]; rfl
      have e3 : (us.map fun p => kV p.1) = (us.map (·.1)).map kV := by rw [List.map_map]; rfl
      rw [e2, e3, this]
    rw [e1]
    exact keys_at (by rw [Array.length_toList, it.1, ← hl2, hl]) fun j w hw => it.2 j w (by rw [← Array.getElem?_toList]; exact hw)
  · obtain ⟨z, hs, ks, pr, o, es, ep, ho, hx, hdt, he, hn⟩ := (show ObjOk X.prog X.w H s.heap a (.dT vs) from I.hok a _ h)
    have l1 : es.size = ks.length := size_of_entries he
    have l2 : vs.length = ks.length := Paired.length pr
    have l3 := rr.length
    have src := kdl_raw (prog := X.prog) (w := X.w) hs hx hdt
    rw [l1, ← l2, l3] at src
    refine ⟨a, _, _, rfl, src, ho, by rw [← l3]; exact z, fun acc it => ⟨_, ?_, rr.keysR (isKeys_of pr)⟩⟩
    have ea : acc.toList = ks.map fun x => Value.ref x.2.1 := by
      have hl : acc.toList.length = ks.length := by rw [Array.length_toList, it.1, ← l3, l2]
      apply List.ext_getElem?
      intro j
      rw [List.getElem?_map]
      cases hj : acc.toList[j]? with
      | none =>
        have h1 := List.getElem?_eq_none_iff.mp hj
        rw [List.getElem?_eq_none (by omega)]
        all_goals rfl
      | some v =>
        obtain ⟨en, hen, hv⟩ := it.2 j v (by rw [← Array.getElem?_toList]; exact hj)
        have qe := entry_at he j
        rw [hen] at qe
        cases hb : ks[j]? with
        | none =>
          rw [hb] at qe
          exact nomatch (show some en = none from qe)
        | some b =>
          rw [hb] at qe
          have e2 : en = entryOfKey (tupleKind (mixKind X.prog X.w)) b := Option.some.inj qe
          rw [hv, e2]
          all_goals rfl
    have eb : acc.toList = (ks.map fun x => x.2.1).map Value.ref := by rw [ea, List.map_map]; all_goals rfl
    rw [eb]
    exact vals_refs _
/-- list(d) -/
def gListD : GC := fun S ds => match ds with
  | [d] => match vw S d with
    | .dct _ kvs => some (.lst (kvs.map (·.1)))
    | _ => none
  | _ => none
/-- sorted(d) -/
def gSortedD : GC := fun S ds => match ds with
  | [d] => match vw S d with
    | .dct _ kvs => if srtOk (kvs.map (·.1)) = true then some (.lst ((kvs.map (·.1)).mergeSort leD)) else none
    | _ => none
  | _ => none
theorem cl_sortedD (hc : X.calm = true) (hu : X.A.units + 64 < cLine) : CallL X (.builtin "sorted") gSortedD := ⟨fun pins s σ H m S xs ds d us I q r rv e => by
  unfold gSortedD at e
  split at e
  · split at e
    · rename_i t kvs qv
      split at e
      · rename_i hk0
        cases e
        obtain ⟨h1, h2, h3, h4, h5⟩ := srtOk_inv hk0
        obtain ⟨v, rfl, w⟩ := r.one
        obtain ⟨a, P, OK, rfl, src, ok, hz, hk⟩ := dict_src I q w qv
        rw [Vals.ref1 rv]
        refine PySem.Calls.call_function_entry PyProof.Rows.kind_sorted PyProof.Rows.plain_sorted PyProof.Rows.entry_sorted (PyProof.Rows.args_sorted1 _) ?_
        unfold Builtin.«sorted»
        refine wpAny_bind (m := checkCount "sorted" 1 1 _) (wpAny_pure ?_)
        refine wpAny_bind (PySem.W.kdu_collect (A := X.A.in1) src (I.ok.hd hc) ok hz fun h' tk acc hkp hacc => ?_)
        obtain ⟨ks, k1, k2⟩ := hk acc hacc
        have hal : acc.toList.length = kvs.length := by rw [Array.length_toList]; exact hacc.1
        refine wpAny_bind (wpAny_newList ?_ (by rw [hal]; exact hz))
        have hoL : (h'.push (seqObj "list" acc.toList.toArray 0)).get? h'.objs.size = some (seqObj "list" acc.toList.toArray 0) := Heap.get?_push_size _ rfl
        show wpAny _ _ _ _ _ { s with heap := h'.push (seqObj "list" acc.toList.toArray 0), toks := tk }
        have I1 : Inv X pins σ H { s with heap := h', toks := tk } := I.kept hkp
        have er := each_reads I1 k1 k2 h1
        obtain ⟨H1, hH1⟩ : ∃ z, z = h'.push (seqObj "list" acc.toList.toArray 0) := ⟨_, rfl⟩
        have er' : PySem.W.EachIs (fun v b => ∃ as, Reads (PySem.W.sortingHeap H1 h'.objs.size acc.toList) v (encD b) as) acc.toList (kvs.map (·.1)) := er.mono fun _ _ ⟨as, r⟩ => ⟨as, PyProof.Rows.Reads.keeps (fun b o z => PySem.W.sortingHeap_old (Nat.ne_of_lt (Heap.lt_size z)) (hH1 ▸ Heap.get?_push_of_some _ z)) r⟩
        have hR := each_isV (K := X.K) (m := m) (H := H) k1 k2
        rw [← hH1] at hoL ⊢
        refine wpAny_bind (wpAny_holding (wpAny_call_entry PyProof.Rows.slot_list_sort ⟨_, hoL, rfl⟩ PyProof.Rows.entry_list_sort (PySem.W.list_sort_vals (κ := PySem.W.dataKind (PySem.W.sortingHeap H1 h'.objs.size acc.toList) ((kvs.map (·.1)).map encD)) (s := { s with heap := H1, toks := tk }) hoL
          (PySem.W.SortsAt.data (s := { s with heap := PySem.W.sortingHeap H1 h'.objs.size acc.toList, toks := tk }) (PySem.W.each_map (R := fun v d => ∃ as, Reads (PySem.W.sortingHeap H1 h'.objs.size acc.toList) v d as) encD er') h2 h3 (PySem.W.bound_map fun b hb => by have := h4 b hb; show X.A.units + 1 + 1 + _ < cLine; omega)) (by rw [hal]; exact hz) ⟨.none, rfl, ?_⟩) (PyProof.Rows.args_list_sort _)))
        have hE := PySem.W.sortVals_data false hR er' h2
        have ho := PySem.W.sortVals_length (κ := PySem.W.dataKind (PySem.W.sortingHeap H1 h'.objs.size acc.toList) ((kvs.map (·.1)).map encD)) (vs := acc.toList) false rfl
        obtain ⟨ws, q1, q2⟩ := of_each hE
        obtain ⟨ep, he'⟩ := PyProof.Rows.sortedHeap_at (vs := acc.toList) (out := (PySem.W.sortVals (PySem.W.dataKind (PySem.W.sortingHeap H1 h'.objs.size acc.toList) ((kvs.map (·.1)).map encD)) false acc.toList acc.toList).toArray) hoL
        have hn : H h'.objs.size = none := I1.hok.fresh (Nat.le_refl _)
        refine wpAny_pure ⟨_, rfl, .ref h'.objs.size, upd H h'.objs.size (.lst ws), m, I1.laid (t' := tk) (fun b u e => ?_) (Nat.le_refl _) ⟨by rw [q1.length, ho, hal]; exact hz, _, ep, q1, he'⟩, rfl, Ext.fresh hn, q.fresh hn, vr_newLst q hn q2⟩
        have hb : b < h'.objs.size := Heap.lt_size e
        rw [PyProof.Rows.sortedHeap_old (Nat.ne_of_lt hb) (by rw [hH1, size_push']; exact Nat.lt_succ_of_lt hb), hH1]
        exact Heap.get?_push_of_some _ e
      · cases e
    · cases e
  · cases e⟩
end
end MP

namespace MP
open PySem PySem.Spec PyProof.Rows L2
open AutoSeq1 (wpAny_loadPart')
section
variable {prog : Program} {w : World} {A : Around} {E : Value → Shared → Prop} {s : Shared}
theorem new_tuple_src {A' : Around} {R : Result → Shared → Prop} {l : Addr} {T : String} {n : Nat} {P : Nat → Value → Prop} {OK : Heap → Prop} (K : PySem.W.KdlSrc prog w T l l n P OK) (hh : A.handled = none) (hok : OK s.heap) (hn : n ≤ sizeLine) (hne : T ≠ "tuple") (hT : s.TypeIs (.ref l) T)
    (h : ∀ (h' : Heap) (tk : Nat) (acc : Array Value), (∀ b o, s.heap.get? b = some o → h'.get? b = some o) → ItemsOf P acc n → R (.ok (.ret (.ref h'.objs.size))) { s with heap := h'.push { cls := .type "tuple", data := .seq acc }, toks := tk }) :
    wpAny (model prog w) A (Builtin.«tuple.__new__» ⟨[.type "tuple", .ref l], []⟩) (fun fin s' => match fin with
      | .done f => R (.ok f) s'
      | .again c' => c'.quiet = true ∧ codeAny (model prog w) A' c' R s') (fun e s' => R (.error e) s') s := by
  obtain ⟨hp, g, d, tk, os⟩ := s
  have hsub := sub_tuple_self
  have hinit := init_tuple_lookup
  have hmh := madeHere_tuple
  have hc : ∀ {Q : List Value → Shared → Prop} {E' : Value → Shared → Prop}, (∀ (h' : Heap) (tk' : Nat) (acc : Array Value), (∀ b o, hp.get? b = some o → h'.get? b = some o) → ItemsOf P acc n → Q acc.toList ⟨h', g, d, tk', os⟩) → wpAny (model prog w) A (collect (.ref l)) Q E' ⟨hp, g, d, tk, os⟩ := fun hq => PySem.W.kdu_collect K hh hok hn fun h' tk' acc hk hacc => hq h' tk' acc hk hacc
  wp_walk using wpAny_typeOf hT, hc
  intro h' tk' acc hk it
  refine wpAny_bind (wpAny_pure ?_)
  show wpAny _ _ (Builtin.Tuple.tupleExact acc.toList.toArray >>= fun v => ret v) _ _ _
  unfold Builtin.Tuple.tupleExact
  refine wpAny_bind (wpAny_newObj_type ?_ (by show acc.toList.toArray.size ≤ sizeLine; rw [Array.toArray_toList, it.1]; exact hn))
  refine wpAny_pure ?_
  rw [Array.toArray_toList]
  exact h h' tk' acc hk it
theorem call_tuple_src {l : Addr} {T : String} {n : Nat} {P : Nat → Value → Prop} {OK : Heap → Prop} {Q : Value → Shared → Prop} (K : PySem.W.KdlSrc prog w T l l n P OK) (hh : A.handled = none) (hok : OK s.heap) (hn : n ≤ sizeLine) (hne : T ≠ "tuple")
    (h : ∀ (h' : Heap) (tk : Nat) (acc : Array Value), (∀ b o, s.heap.get? b = some o → h'.get? b = some o) → ItemsOf P acc n → Q (.ref h'.objs.size) { s with heap := h'.push { cls := .type "tuple", data := .seq acc }, toks := tk }) :
    wpAny (model prog w) A (call (.type "tuple") [.ref l]) Q E s := by
  have hT : s.TypeIs (.ref l) T := K.type _ hok
  refine callType_codes (T := "tuple") (Bi := Builtin.«object.__init__») (Q₁ := fun r s₁ => s₁.TypeIs r "tuple" ∧ Q r s₁) PySem.F.called_tuple (PySem.F.typeCall_tuple_1 _) PySem.F.entry_object_init ?_ ?_
  · refine codeAny_of_tree ?_
    show wpAny _ A.in1.in1 (do checkBuiltinCall "tuple.__new__" ⟨[.type "tuple", .ref l], []⟩; again (.builtin "tuple.__new__" ⟨[.type "tuple", .ref l], []⟩)) _ _ s
    refine wpAny_bind (wpAny_of_eq (PySem.F.newCall_tuple_1 _) (wpAny_pure ⟨plainId_quiet (by decide +kernel) _, codeAny_builtin PySem.F.entry_tuple_new ?_⟩))
    rw [Around.under_plainId (by decide +kernel) _]
    exact new_tuple_src (A := A.in1.in1) (A' := A.in1) (R := wants (fun r s₁ => s₁.TypeIs r "tuple" ∧ Q r s₁) E) K hh hok hn hne hT fun h' tk acc hk it => ⟨⟨_, Heap.get?_push_size _ rfl, rfl⟩, h h' tk acc hk it⟩
  · rintro obj s₁ ⟨ht, hq⟩
    exact ⟨ht, PySem.F.args_object_init_2 _ _, object_init_meets PySem.F.called_tuple.init.lookup PySem.F.called_tuple.made (by decide) prog w A.in1 _ s₁ ⟨ht, rfl, hq⟩⟩
end
section
variable {X : Cx}
/-- tuple(d) -/
def gTupD : GC := fun S ds => match ds with
  | [d] => match vw S d with
    | .dct _ kvs => some (.tup (kvs.map (·.1)))
    | _ => none
  | _ => none
theorem cl_tupD (hc : X.calm = true) : CallL X (.type "tuple") gTupD := ⟨fun pins s σ H m S xs ds d us I q r rv e => by
  unfold gTupD at e
  split at e
  · split at e
    · rename_i t kvs qv
      cases e
      obtain ⟨v, rfl, w⟩ := r.one
      obtain ⟨a, P, OK, rfl, src, ok, hz, hk⟩ := dict_src I q w qv
      rw [Vals.ref1 rv]
      refine call_tuple_src src (I.ok.hd hc) ok hz (by decide) fun h' tk acc kp it => ?_
      obtain ⟨ks, k1, k2⟩ := hk acc it
      have I1 : Inv X pins σ H { s with heap := h', toks := tk } := I.kept kp
      have hn : H h'.objs.size = none := I1.hok.fresh (Nat.le_refl _)
      refine ⟨.ref h'.objs.size, _, m, I1.laid (t' := tk) (o := .tup ks) (fun b o e => Heap.get?_push_of_some _ e) (Nat.le_refl _) ⟨by rw [k2.length, List.length_map]; exact hz, acc.toList, k1, ?_⟩, rfl, Ext.fresh hn, q.fresh hn, vr_newTup q hn k2⟩
      have := IsTup.new h' acc
      rw [← Array.toArray_toList (xs := acc)] at this
      exact this
    · cases e
  · cases e⟩
end
end MP

/-! isinstance and fields of an exception that is a value (the two lemmas ahead: lines of HandS.ExcIs, turned to an exception with a dict) -/
namespace PySem.W
open PySem PySem.Spec PySem.Calls PyProof.Rows
section
variable {prog : Program} {w : World} {A : Around} {E : Value → Shared → Prop} {s : Shared} {K : Frag} {x D : Addr} {ox : Obj} {od : Option Obj}
end
end PySem.W
namespace MP
open PySem PySem.Spec PyProof.Rows L2
section
variable {X : Cx} {pins : List (Addr × Obj)} {σ : L2.St} {H : Hp} {s : Shared} {m : List Addr} {S : Sto}
variable {e : Expr} {pos : Pos} {l : LE} {Cs : List Addr} {f : Str}
/-- e.f, e an exception of one of the classes -/
def gFldE (Cs : List Addr) (f : Str) (S : Sto) (d : D) : Option D := match vw S d with
  | .exn C fs => if C ∈ Cs then fs.lookup f else none
  | _ => none
def lFldE (Cs : List Addr) (f : Str) (l : LE) : LE := fun ρ S => (l ρ S).bind fun d S1 => lift1 (gFldE Cs f S1 d) S1
/-- isinstance(e, c), e an exception -/
structure IsEOk (K : PySem.W.Frag) (c : Value) (tab : Addr → Option Bool) : Prop where
  one : ∀ C b, tab C = some b → PySem.W.kitOne K (.ref C) c = some b ∧ ExcC K C
def gIsE (tab : Addr → Option Bool) (S : Sto) (d : D) : Option D := match vw S d with
  | .exn C _ => (tab C).map .bl
  | _ => none
def lIsE (tab : Addr → Option Bool) (l : LE) : LE := fun ρ S => (l ρ S).bind fun d S1 => lift1 (gIsE tab S1 d) S1
end
end MP

/-! own exceptions made as values -/
namespace MP
open PySem PySem.Spec PyProof.Rows L2
/-! ### the bodies of __init__ -/
/-- what a class C with an __init__ of its own must have -/
structure MkE (K : PySem.W.Frag) (C f : Addr) (fs : List Str) : Prop where
  T : OexC K C
  i : PySem.W.findIn K (.ref C) "__init__" = some (some (.ref f))
  t : PySem.W.typeIn K (.ref f) = some (.type "function")
  no : ∀ g ∈ fs, PySem.W.findIn K (.ref C) g = some none
section
variable {X : Cx} {pins : List (Addr × Obj)} {σ : L2.St} {H : Hp} {s : Shared} {m : List Addr} {S : Sto} {C f : Addr} {fs ps : List Str} {k : Nat} {fd : FuncData}
abbrev FnE (P : Program) (w : World) (K : PySem.W.Frag) (mg : Str → Option Value) (base : Heap) (k : Nat) (f : Addr) (fd : FuncData) (ps fs : List Str) : Prop := FnOk P w K mg base (L2.CX P w) k f fd ps (spE K fs)
end
end MP

namespace MP
open PySem PySem.Spec PyProof.Rows L2
section
variable {X : Cx} {e : Expr} {pos p : Pos} {es : List Expr} {kws : List Keyword} {t tk : LA} {x : Str} {k : Nat} {f C : Addr} {fd : FuncData} {ps ks fs : List Str}
def mkE (C : Addr) (fs : List Str) (ds : List D) (S : Sto) : R D := if ds.length = fs.length then .ok (.exn C (fs.zip ds).reverse) S else .bad
/-- C(k = v, ..), likewise; pk: the order of the values, self being 0 -/
def mkEk (C : Addr) (fs ks : List Str) (pk : List Nat) (ds : List D) (S : Sto) : R D := if ds.length = ks.length ∧ (pick pk ds).length = fs.length then .ok (.exn C (fs.zip (pick pk ds)).reverse) S else .bad
end
end MP

/-! an exception that a handler keeps: it is taken into the abstract heap -/
namespace MP
open PySem PySem.Spec PyProof.Rows L2
section
variable {X : Cx} {pins : List (Addr × Obj)} {σ : L2.St} {H : Hp} {s : Shared} {a : Addr} {o : HO}
end
end MP

/-! try: .. except C as n: .., the exception being a value from the handler on (the road of L2.ps_try_as) -/
namespace MP
open PySem PySem.Spec PyProof.Rows L2
def endH (i : Nat) (fl : Fl) (S : Sto) : R Fl := match fl with
  | .nx ρ => .ok (.nx (ρ.set i none)) S
  | .bk ρ => .ok (.bk (ρ.set i none)) S
  | .ct ρ => .ok (.ct (ρ.set i none)) S
  | .rt d => .ok (.rt d) S
  | .ex _ _ _ => .bad
def catchH (i : Nat) (tab : Addr → Option Bool) (ls : LS) (fl : Fl) (S : Sto) : R Fl := match fl with
  | .ex C fs ρ => match tab C with
    | some true => (ls (ρ.set i (some (.exn C fs))) S).bind (endH i)
    | some false => .ok (.ex C fs ρ) S
    | none => .bad
  | fl => .ok fl S
def lTryA (i : Nat) (tab : Addr → Option Bool) (lb ls : LS) : LS := fun ρ S => (lb ρ S).bind (catchH i tab ls)
section
variable {X : Cx} {x n : Str} {c : Value} {i : Nat} {body suite : List Stmt} {b₀ : Stmt} {np pos pos' : Pos} {lb ls : LS} {tab : Addr → Option Bool}
end
end MP

/-! raise C(e, ..), C an own class with an __init__ of its own -/
namespace MP
open PySem PySem.Spec PyProof.Rows L2
section
variable {X : Cx} {e : Expr} {es : List Expr} {ta : TA} {p pos : Pos}
end
section
variable {X : Cx} {e : Expr} {pos pos' p : Pos} {es : List Expr} {t : LA} {x : Str} {k : Nat} {f C : Addr} {fd : FuncData} {ps fs : List Str}
def lRaiseE (C : Addr) (fs : List Str) (t : LA) : LS := fun ρ S => liftX ρ (t ρ S) fun ds S1 => if ds.length = fs.length then .ok (.ex C (fs.zip ds).reverse ρ) S1 else .bad
end
end MP

namespace MP
open PySem PySem.Spec PyProof.Rows L2
/-- a short text times a small int -/
def strRep (x : Str) (n : Int) : Str := if n < 1 then Str.empty else if (n == 1 || x.length == 0) = true then x else ⟨(List.replicate n.toNat x.cps).foldl (· ++ ·) #[]⟩
def gMulS : G2 := fun S dx dy => match vw S dx, vw S dy with
  | .str x, .int n => if 0 ≤ n ∧ n ≤ 1000 ∧ x.length ≤ 1000 ∧ (strRep x n).length ≤ sizeLine then some (.str (strRep x n)) else none
  | _, _ => none
theorem opl_mulS {X : Cx} : OpL X (binaryOp .Mult) gMulS := ⟨fun pins s σ H m S x y dx dy d v u I q rx ry rv ru e => by
  unfold gMulS at e
  split at e
  · rename_i a n e1 e2
    split at e
    · rename_i hz
      obtain ⟨h0, h1, h2, h3⟩ := hz
      cases e
      have ea := vw_str rx e1
      have eb := vw_int ry e2
      subst ea
      subst eb
      obtain ⟨t, rfl⟩ := rv
      obtain ⟨t2, rfl⟩ := ru
      have hsz : (sizeLine : Nat) ≥ 1000000 := by rw [sizeLine_eq]; omega
      refine PySem.P.mul_str ?_ (fun a1 a2 => ?_) (fun a1 a2 => ?_) ?_
      · rw [decide_eq_false (by omega), decide_eq_false (by omega)]; rfl
      · have : (2 ^ 63 - 1) / n ≥ (2 ^ 63 - 1) / 1000 := by
          have hn : 0 < n := by omega
          rw [ge_iff_le, Int.le_ediv_iff_mul_le hn]
          have : (2 ^ 63 - 1 : Int) / 1000 * n ≤ (2 ^ 63 - 1 : Int) / 1000 * 1000 := Int.mul_le_mul_of_nonneg_left h1 (by decide)
          have z : (2 ^ 63 - 1 : Int) / 1000 * 1000 ≤ 2 ^ 63 - 1 := by decide
          omega
        have z : (2 ^ 63 - 1 : Int) / 1000 ≥ 1000 := by decide
        omega
      · unfold Builtin.Str.tooLong
        refine decide_eq_false ?_
        have : a.length * n.toNat ≤ 1000 * 1000 := Nat.mul_le_mul h2 (by omega)
        omega
      · unfold strRep at h3 ⊢
        by_cases c1 : n < 1
        · rw [if_pos c1] at h3 ⊢
          rw [if_pos c1]
          exact ⟨h3, .str _, H, m, I.tok _, ⟨_, rfl⟩, Ext.refl, q, .str _⟩
        · rw [if_neg c1] at h3 ⊢
          rw [if_neg c1]
          by_cases c2 : (n == 1 || a.length == 0) = true
          · rw [if_pos c2] at h3 ⊢
            rw [if_pos c2]
            exact ⟨.str _, H, m, I, ⟨_, rfl⟩, Ext.refl, q, .str _⟩
          · rw [if_neg c2] at h3 ⊢
            rw [if_neg c2]
            exact ⟨h3, .str _, H, m, I.tok _, ⟨_, rfl⟩, Ext.refl, q, .str _⟩
    · cases e
  · cases e⟩
end MP

/-! repr of deep data, an empty dict in it too (the road of ReprK.of_reads) -/
namespace MP
open PySem PySem.Spec PyProof.Rows L2
mutual
def toPE : D → Option PyData
  | .non => some .none
  | .bl b => some (.bool b)
  | .int i => some (.int i)
  | .str s => some (.str s)
  | .tup xs => (toPEs xs).map .tuple
  | .ftup xs => (toPEs xs).map .tuple
  | .lst xs => (toPEs xs).map .list
  | .dct _ [] => some (.dict [])
  | _ => none
def toPEs : List D → Option (List PyData)
  | [] => some []
  | x :: xs => (toPE x).bind fun a => (toPEs xs).map fun b => a :: b
end
mutual
inductive De (K : PySem.W.Frag) (H : Hp) : V → PyData → Prop
  | non : De K H .non .none
  | bl (b : Bool) : De K H (.bl b) (.bool b)
  | int (i : Int) : De K H (.int i) (.int i)
  | str (x : Str) : De K H (.str x) (.str x)
  | lst {a : Addr} {xs : List V} {ds : List PyData} : SqL K H a xs → DeAll K H xs ds → De K H (.ref a) (.list ds)
  | tup {a : Addr} {xs : List V} {ds : List PyData} : SqT K H a xs → DeAll K H xs ds → De K H (.ref a) (.tuple ds)
  | dk {a : Addr} : H a = some (.dK []) → De K H (.ref a) (.dict [])
  | dt {a : Addr} : H a = some (.dT []) → De K H (.ref a) (.dict [])
inductive DeAll (K : PySem.W.Frag) (H : Hp) : List V → List PyData → Prop
  | nil : DeAll K H [] []
  | cons {v : V} {vs : List V} {d : PyData} {ds : List PyData} : De K H v d → DeAll K H vs ds → DeAll K H (v :: vs) (d :: ds)
end
section
variable {K : PySem.W.Frag} {m : List Addr} {H : Hp}
mutual
theorem VR.de {v : V} {d : D} {p : PyData} : VR K m H v d → toPE d = some p → De K H v p
  | .non, e => by simp only [toPE] at e; cases e; exact .non
  | .bl b, e => by simp only [toPE] at e; cases e; exact .bl b
  | .int b, e => by simp only [toPE] at e; cases e; exact .int b
  | .str b, e => by simp only [toPE] at e; cases e; exact .str b
  | @VR.tup _ _ _ a vs ds h r, e => by
    simp only [toPE] at e
    cases q : toPEs ds with
    | none => rw [q] at e; cases e
    | some ps => rw [q] at e; cases e; exact .tup (SqT.of h) (r.des q)
  | @VR.ftup _ _ _ a vs ds o hd h r, e => by
    simp only [toPE] at e
    cases q : toPEs ds with
    | none => rw [q] at e; cases e
    | some ps => rw [q] at e; cases e; exact .tup (SqT.rd (.inr ⟨o, h⟩)) (r.des q)
  | @VR.lst _ _ _ a vs ds n h r, e => by
    simp only [toPE] at e
    cases q : toPEs ds with
    | none => rw [q] at e; cases e
    | some ps => rw [q] at e; cases e; exact .lst (.inl h) (r.des q)
  | @VR.lstK _ _ _ a vs ds o its n hk h1 h2 h3 h4 h5 r, e => by
    simp only [toPE] at e
    cases q : toPEs ds with
    | none => rw [q] at e; cases e
    | some ps => rw [q] at e; cases e; exact .lst (.inr ⟨o, its, n, hk, h1, h2, h3, h4, h5⟩) (r.des q)
  | .dct n h r, e => by
    cases r with
    | nil => simp only [toPE] at e; cases e; exact .dk h
    | cons _ _ => simp only [toPE] at e; cases e
  | .dctT n h r, e => by
    cases r with
    | nil => simp only [toPE] at e; cases e; exact .dt h
    | cons _ _ => simp only [toPE] at e; cases e
  | .obj _ _ _, e => by simp only [toPE] at e; cases e
  | .exn0 _ _, e => by simp only [toPE] at e; cases e
  | .exnD _ _ _ _ _, e => by simp only [toPE] at e; cases e
  | .ref _, e => by simp only [toPE] at e; cases e
theorem VRs.des {v : List V} {d : List D} {p : List PyData} : VRs K m H v d → toPEs d = some p → DeAll K H v p
  | .nil, e => by simp only [toPEs] at e; cases e; exact .nil
  | @VRs.cons _ _ _ v d vs ds h r, e => by
    simp only [toPEs] at e
    cases q : toPE d with
    | none => rw [q] at e; cases e
    | some a =>
      rw [q] at e
      cases q2 : toPEs ds with
      | none => rw [q2] at e; cases e
      | some b => rw [q2] at e; cases e; exact .cons (h.de q) (r.des q2)
end
end
section
variable {X : Cx} {pins : List (Addr × Obj)} {σ : L2.St} {H : Hp} {s : Shared} {prog : Program} {w : World}
theorem de_dict (I : Inv X pins σ H s) {a : Addr} (h : H a = some (.dK []) ∨ H a = some (.dT [])) : (a == sysModules) = false ∧ ∃ o n, s.heap.get? a = some o ∧ o.cls = .type "dict" ∧ o.data = .dict #[] n := by
  rcases h with h | h
  · obtain ⟨_, hs, vs, r, o, es, ep, e1, e2, e3, e4, e5, _⟩ := (show ObjOk X.prog X.w H s.heap a (.dK []) from I.hok a _ h)
    cases r
    obtain ⟨l⟩ := es
    have : l = [] := by cases e5; rfl
    subst this
    exact ⟨hs, o, ep, e1, e2.1, e3⟩
  · obtain ⟨_, hs, xs, r, o, es, ep, e1, e2, e3, e4, _⟩ := (show ObjOk X.prog X.w H s.heap a (.dT []) from I.hok a _ h)
    cases r
    obtain ⟨l⟩ := es
    have : l = [] := by simpa using e4
    subst this
    exact ⟨hs, o, ep, e1, e2.1, e3⟩
mutual
theorem De.reprK (I : Inv X pins σ H s) : ∀ (d : PyData) (v : V) (u : Value), De X.K H v d → RelV v u → d.showable = true → d.shown.length ≤ sizeLine → ∃ as bs, Reads s.heap u d as ∧ ReadAtMost s.heap d.depth bs ∧ ReprK prog w bs s.heap d.depth u d.shown
  | .none, _, _, h, r, _, _ => by
    cases h
    cases r
    exact ⟨_, [], Reads.none, (fun _ h => nomatch h), by simp only [PyData.shown]; exact .of_is ReprIs.none _ _ _⟩
  | .bool b, _, _, h, r, _, _ => by
    cases h
    cases r
    exact ⟨_, [], Reads.bool b, (fun _ h => nomatch h), by simp only [PyData.shown]; exact .of_is (ReprIs.bool b) _ _ _⟩
  | .int i, _, _, h, r, hs, _ => by
    cases h
    obtain ⟨t, rfl⟩ := r
    exact ⟨_, [], Reads.int i t, (fun _ h => nomatch h), by simp only [PyData.shown]; exact .of_is (ReprIs.int t (by simpa [PyData.showable] using hs)) _ _ _⟩
  | .str x, _, _, h, r, _, hz => by
    cases h
    obtain ⟨t, rfl⟩ := r
    exact ⟨_, [], Reads.str x t, (fun _ h => nomatch h), by simp only [PyData.shown]; exact .of_is (ReprIs.str x t (by simpa only [PyData.shown] using hz)) _ _ _⟩
  | .list ds, _, _, h, r, hs, hz => by
    have hz' : (listText (PyData.shownAll ds)).length ≤ sizeLine := by simpa only [PyData.shown] using hz
    cases h with
    | @lst a _ _ hq ha =>
      cases r
      obtain ⟨its, rv, ⟨o, n, h1, h2, _, h3⟩, _⟩ := I.list hq
      obtain ⟨as, bs, hr, hb, hk⟩ := De.reprAllK I ds _ its ha rv (by simpa [PyData.showable] using hs) (fun t ht => Nat.le_trans (listText_mem_le ht) hz')
      have r : Reads s.heap (.ref a) (.list ds) _ := .list h1 h2 h3 hr
      have hna : a ∉ bs := not_mem_of_deeper r (by simp only [PyData.depth]; omega) hb
      refine ⟨_, a :: bs, r, ReadAtMost.cons r (by simp only [PyData.depth]; omega) hb, ?_⟩
      simp only [PyData.depth, PyData.shown]
      cases its with
      | nil =>
        have h4' : ReadsAll s.heap [] ds _ := hr
        cases h4'
        simp only [PyData.shownAll, listText_nil]
        exact ReprK.listEmpty h1 h2 h3
      | cons x l => exact ReprK.list h1 h2 h3 hna (by simpa using hk.length_eq) (fun i y e => hk.item i y (by simpa using e))
  | .tuple ds, _, _, h, r, hs, hz => by
    have hz' : (tupleText (PyData.shownAll ds)).length ≤ sizeLine := by simpa only [PyData.shown] using hz
    cases h with
    | @tup a _ _ hq ha =>
      cases r
      obtain ⟨its, rv, ⟨o, h1, h2, n, h3⟩, _⟩ := I.tuple hq
      obtain ⟨as, bs, hr, hb, hk⟩ := De.reprAllK I ds _ its ha rv (by simpa [PyData.showable] using hs) (fun t ht => Nat.le_trans (tupleText_mem_le ht) hz')
      have r : Reads s.heap (.ref a) (.tuple ds) _ := .tuple h1 h2 h3 hr
      have hna : a ∉ bs := not_mem_of_deeper r (by simp only [PyData.depth]; omega) hb
      refine ⟨_, a :: bs, r, ReadAtMost.cons r (by simp only [PyData.depth]; omega) hb, ?_⟩
      simp only [PyData.depth, PyData.shown]
      exact ReprK.tuple h1 h2 h3 hna hk
  | .dict kvs, _, _, h, r, hs, hz => by
    have key : ∀ {a : Addr} {u : Value}, RelV (.ref a) u → kvs = [] → (H a = some (.dK []) ∨ H a = some (.dT [])) → ∃ as bs, Reads s.heap u (.dict kvs) as ∧ ReadAtMost s.heap (PyData.depth (.dict kvs)) bs ∧ ReprK prog w bs s.heap (PyData.depth (.dict kvs)) u (PyData.shown (.dict kvs)) := by
      intro a u r e hh
      subst e
      cases r
      obtain ⟨hsys, o, n, h1, h2, h3⟩ := de_dict I hh
      have r : Reads s.heap (.ref a) (.dict []) _ := .dict h1 h2 h3 .nil .nil
      refine ⟨_, [a], r, ReadAtMost.cons r (n := 0) (Nat.zero_le _) (fun _ h => nomatch h), ?_⟩
      simp only [PyData.depth, PyData.shown]
      exact ReprK.dict h1 h2 h3 hsys (by simp) .nil
    cases h with
    | dk hh => exact key r rfl (.inl hh)
    | dt hh => exact key r rfl (.inr hh)
theorem De.reprAllK (I : Inv X pins σ H s) : ∀ (ds : List PyData) (vs : List V) (us : List Value), DeAll X.K H vs ds → Vals vs us → PyData.showableAll ds = true → (∀ t ∈ PyData.shownAll ds, t.length ≤ sizeLine) →
    ∃ as bs, ReadsAll s.heap us ds as ∧ ReadAtMost s.heap (PyData.depthAll ds) bs ∧ ReprAllK prog w bs s.heap (PyData.depthAll ds) us (PyData.shownAll ds)
  | [], _, _, h, r, _, _ => by
    cases h
    cases r
    exact ⟨_, [], ReadsAll.nil, (fun _ h => nomatch h), by simp only [PyData.shownAll]; exact .nil⟩
  | d :: ds, _, _, h, r, hs, hz => by
    have hs' : d.showable = true ∧ PyData.showableAll ds = true := by simpa [PyData.showableAll] using hs
    cases h with
    | cons h1 h2 =>
      cases r with
      | cons r1 r2 =>
        obtain ⟨as1, b1, q1, hb1, k1⟩ := De.reprK I d _ _ h1 r1 hs'.1 (hz _ (by simp only [PyData.shownAll]; exact List.mem_cons_self ..))
        obtain ⟨as2, b2, q2, hb2, k2⟩ := De.reprAllK I ds _ _ h2 r2 hs'.2 (fun t ht => hz t (by simp only [PyData.shownAll]; exact List.mem_cons_of_mem _ ht))
        refine ⟨_, b1 ++ b2, ReadsAll.cons q1 q2, ?_, ?_⟩
        · intro b hm
          simp only [PyData.depthAll]
          rcases List.mem_append.mp hm with hm | hm
          · obtain ⟨d', as', r', hd'⟩ := hb1 b hm
            exact ⟨d', as', r', Nat.le_trans hd' (Nat.le_max_left _ _)⟩
          · obtain ⟨d', as', r', hd'⟩ := hb2 b hm
            exact ⟨d', as', r', Nat.le_trans hd' (Nat.le_max_right _ _)⟩
        · simp only [PyData.depthAll, PyData.shownAll]
          exact .cons ((k1.more fun b hb => List.mem_append_left _ hb).level_le (Nat.le_max_left _ _)) (k2.more_le (fun b hb => List.mem_append_right _ hb) (Nat.le_max_right _ _))
end
end
end MP

/-! repr(d) of deep data; list(..) put into the store; list + list -/
namespace MP
open PySem PySem.Spec PyProof.Rows L2
section
variable {X : Cx} {pins : List (Addr × Obj)} {σ : L2.St} {H : Hp} {s : Shared}
theorem showsBy_of_de (I : Inv X pins σ H s) {a : Addr} {d : PyData} (h : De X.K H (.ref a) d) (hs : d.showable = true) (hsz : d.shown.length ≤ sizeLine) : ∃ T idr, ShowsBy X.prog X.w s.heap a d T idr := by
  have dk : ∀ {a : Addr}, (H a = some (.dK []) ∨ H a = some (.dT [])) → ∃ T idr, ShowsBy X.prog X.w s.heap a (.dict []) T idr := by
    intro a hh
    obtain ⟨hsys, o, n, h1, h2, h3⟩ := de_dict I hh
    have hz' : (dictText []).length ≤ sizeLine := by rw [sizeLine_eq]; decide
    refine ⟨"dict", "dict.__repr__", F.slot_dict_repr, F.slot_dict_str, F.slot_dict_format, fun s' hk0 => ⟨o, hk0 _ _ h1, h2⟩, fun A E s' Q hg hu hk0 hQ => ?_⟩
    simp only [PyData.depth] at hu
    simp only [PyData.shown, PyData.shownKv_eq] at hQ
    exact call_dict_reprK (as := []) h1 h2 h3 hsys (by simp) .nil hg (fun b _ => Clear.nil b) hu hk0 hQ hz'
  cases h with
  | @lst a _ ds hq ha =>
    have hz' : (listText (PyData.shownAll ds)).length ≤ sizeLine := by simpa only [PyData.shown] using hsz
    obtain ⟨its, rv, ⟨o, n, h1, h2, _, h3⟩, _⟩ := I.list hq
    obtain ⟨as, bs, hr, hb, hk⟩ := De.reprAllK (prog := X.prog) (w := X.w) I ds _ its ha rv (by simpa [PyData.showable] using hs) (fun t ht => Nat.le_trans (listText_mem_le ht) hz')
    have r : Reads s.heap (.ref a) (.list ds) _ := .list h1 h2 h3 hr
    have hna : a ∉ bs := not_mem_of_deeper r (by simp only [PyData.depth]; omega) hb
    refine ⟨"list", "list.__repr__", F.slot_list_repr.toG, F.slot_list_str, F.slot_list_format, fun s' hk0 => ⟨o, hk0 _ _ h1, h2⟩, fun A E s' Q hg hu hk0 hQ => ?_⟩
    simp only [PyData.depth] at hu
    simp only [PyData.shown] at hQ
    cases its with
    | nil =>
      have h4' : ReadsAll s.heap [] ds _ := hr
      cases h4'
      simp only [PyData.shownAll, listText_nil] at hQ
      exact call_list_repr_empty ⟨o, hk0 _ _ h1, h2⟩ (hk0 _ _ h1) h3 (hQ s'.heap _ _ fun _ _ e => e)
    | cons x l =>
      exact call_list_reprK h1 h2 h3 hna (by simpa using hk.length_eq) (fun i y e => hk.item i y (by simpa using e)) hg (fun b _ => Clear.nil b) hu hk0 hQ hz'
  | @tup a _ ds hq ha =>
    have hz' : (tupleText (PyData.shownAll ds)).length ≤ sizeLine := by simpa only [PyData.shown] using hsz
    obtain ⟨its, rv, ⟨o, h1, h2, n, h3⟩, _⟩ := I.tuple hq
    obtain ⟨as, bs, hr, hb, hk⟩ := De.reprAllK (prog := X.prog) (w := X.w) I ds _ its ha rv (by simpa [PyData.showable] using hs) (fun t ht => Nat.le_trans (tupleText_mem_le ht) hz')
    have r : Reads s.heap (.ref a) (.tuple ds) _ := .tuple h1 h2 h3 hr
    have hna : a ∉ bs := not_mem_of_deeper r (by simp only [PyData.depth]; omega) hb
    refine ⟨"tuple", "tuple.__repr__", F.slot_tuple_repr, F.slot_tuple_str, F.slot_tuple_format, fun s' hk0 => ⟨o, hk0 _ _ h1, h2⟩, fun A E s' Q hg hu hk0 hQ => ?_⟩
    simp only [PyData.depth] at hu
    simp only [PyData.shown] at hQ
    exact call_tuple_reprK h1 h2 h3 hna hk hg (fun b _ => Clear.nil b) hu hk0 hQ hz'
  | dk hh => exact dk (.inl hh)
  | dt hh => exact dk (.inr hh)
end
def gReprD : GC := fun S ds => match ds with
  | [d] => match toPE d with
    | some p => if p.showable = true ∧ p.shown.length ≤ sizeLine ∧ p.depth ≤ 40 then some (.str p.shown) else none
    | none => none
  | _ => none
theorem cl_reprD {X : Cx} (hg : X.A.guards = some []) (hu : X.A.units + 64 < cLine) : CallL X (.builtin "repr") gReprD := ⟨fun pins s σ H m S xs ds d us I q r rv e => by
  unfold gReprD at e
  split at e
  · rename_i d0
    split at e
    · rename_i p hp
      split at e
      · rename_i hz
        obtain ⟨hs, hsz, hd⟩ := hz
        cases e
        obtain ⟨v, rfl, w⟩ := r.one
        have de := w.de hp
        obtain ⟨u, rfl, ru⟩ := vals1 rv
        have fin : ∀ (h' : Heap) (u' tk : Nat), (∀ b o, s.heap.get? b = some o → h'.get? b = some o) → VP X pins σ m H (.str p.shown) S (.str p.shown u') { s with heap := h', toks := tk } :=
          fun h' u' tk hk => ⟨.str p.shown, H, m, I.kept (t' := tk) hk, ⟨u', rfl⟩, Ext.refl, q, .str _⟩
        have byRef : ∀ (a : Addr), De X.K H (.ref a) p → u = .ref a → wpAny (model X.prog X.w) X.A (call (.builtin "repr") [u]) (VP X pins σ m H (.str p.shown) S) X.xe s := by
          intro a ha eu
          subst eu
          obtain ⟨T, idr, SB⟩ := showsBy_of_de I ha hs hsz
          exact call_repr_slot (by omega) (SB.typeIs s fun _ _ e => e) SB.slotRepr (SB.call X.A.in1 X.xe s _ hg (by show X.A.units + 1 + p.depth < cLine; omega) (fun _ _ e => e) fun h' u tk hk => ⟨_, _, rfl, fin h' u tk hk⟩)
        cases de with
        | non => cases ru; exact PySem.P.repr_of_none (fin s.heap _ _ fun _ _ e => e)
        | bl b => cases ru; exact PySem.P.repr_of_bool (fin s.heap _ _ fun _ _ e => e)
        | int i =>
          obtain ⟨t, rfl⟩ := ru
          exact PySem.P.repr_of_int (by simpa [PyData.showable] using hs) (fin s.heap _ _ fun _ _ e => e)
        | str x =>
          obtain ⟨t, rfl⟩ := ru
          exact PySem.P.repr_of_str (fin s.heap _ _ fun _ _ e => e) (by simpa only [PyData.shown] using hsz)
        | lst a1 a2 => exact byRef _ (.lst a1 a2) ru
        | tup a1 a2 => exact byRef _ (.tup a1 a2) ru
        | dk a1 => exact byRef _ (.dk a1) ru
        | dt a1 => exact byRef _ (.dt a1) ru
      · cases e
    · cases e
  · cases e⟩
/-! ### list(..) put into the store -/
def gItems (S : Sto) (ds : List D) : Option (List D) := match ds with
  | [d] => match vw S d with
    | .lst xs => some xs
    | .tup xs => some xs
    | _ => none
  | _ => none
def lListN (t : LA) : LE := fun ρ S => (t ρ S).bind fun ds S1 => match gItems S1 ds with
  | some ys => .ok (.ref S1.length) (S1 ++ [.lst ys])
  | none => .bad
theorem pel_listN {X : Cx} {x : Str} {e : Expr} {es : List Expr} {t : LA} {p pos : Pos} (hg : Gl X x) (hm : X.mg x = none) (hv : bootBuiltins x = some (.type "list")) (ha : PAL X (e :: es) t) (hn : x ≠ "__name__" := by decide) (hdb : (x == ("__debug__" : Str)) = false := by decide)
    (he : starEach (e :: es) X.env = (false, eval e X.env) :: starEach es X.env := by rfl) (hpl : (backTo pos (starEach es X.env)).any (·.1) = false := by rfl) : PEL X (.Call (.Name x p) (e :: es) [] pos) (lListN t) := by
  refine ⟨fun pins s σ H m ρ S I x r hp => ?_⟩
  refine wpAny_Call_Name_kw (ld_blt I hg hm hv ?_ hn hdb)
  refine PyProof.Rows.callWith_type1 (run_seqA ha I x r hp fun ds S1 q1 vs us s1 H1 m1 I1 rv e1 x1 w1 r1 hp1 => ?_) he hpl
  cases qi : gItems S1 ds with
  | none => rw [qi] at hp1; exact absurd rfl hp1.1
  | some ys =>
    have e0 : lListN t ρ S = .ok (.ref S1.length) (S1 ++ [.lst ys]) := by unfold lListN; rw [q1, bind_ok, qi]
    rw [e0]
    unfold gItems at qi
    split at qi
    · obtain ⟨v, rfl, rv'⟩ := w1.one
      have fin : ∀ {a : Addr} {vs : List V}, v = .ref a → (SqL X.K H1 a vs ∨ SqT X.K H1 a vs) → VRs X.K m1 H1 vs ys → wpAny (model X.prog X.w) X.A (call (.type "list") us) (VPr X pins σ m H (.ok (.ref S1.length) (S1 ++ [.lst ys]))) X.xe s1 := by
        intro a vs ev h1 r1
        subst ev
        refine thn (call_list_of pins s1 σ H1 _ us (fun v' H' => ∃ l, H1 l = none ∧ v' = .ref l ∧ H' = upd H1 l (.lst vs)) I1 rv ⟨a, vs, rfl, h1, fun l hl => ⟨l, hl, rfl, rfl⟩⟩) fun u s2 ⟨v2, H2, I2, rv2, l, hl, ev2, eH⟩ => ?_
        subst ev2
        subst eH
        obtain ⟨m', z1, z2, z3⟩ := qv_newL x1 hl r1
        exact (vpr_of ⟨.ref l, _, m', I2, rv2, z1, z2, z3⟩).left e1
      split at qi
      · rename_i zs e1'
        cases qi
        obtain ⟨a, vs, ev, h1, r1⟩ := vw_lst x1 rv' e1'
        exact fin ev (.inl h1) r1
      · rename_i zs e1'
        cases qi
        obtain ⟨a, vs, ev, h1, r1⟩ := vw_tup rv' e1'
        exact fin ev (.inr (SqT.of h1)) r1
      · cases qi
    · cases qi
end MP

/-! list + list; isinstance tables of exceptions -/
namespace MP
open PySem PySem.Spec PyProof.Rows L2
theorem list_add_any (l : Addr) (ol : Obj) (items : Array Value) (n : Nat) (b : Addr) (ob : Obj) (items2 : Array Value) (n2 : Nat) (hz : items.size + items2.size ≤ sizeLine) :
    Meets (Builtin.«list.__add__» ⟨[.ref l, .ref b], []⟩) (fun _ R s => s.heap.get? l = some ol ∧ ol.data = .seq items n ∧ s.heap.get? b = some ob ∧ ob.cls = .type "list" ∧ ob.data = .seq items2 n2 ∧
      R (.ok (.ret (Value.ref s.heap.objs.size))) { s with heap := s.heap.push { cls := Value.type "list", data := Data.seq (items ++ items2) } }) :=
  .of_wp fun prog w A R s h => by
    obtain ⟨hl, hd, hb, hc, hd2, h⟩ := h
    have f3 := sub_list_list
    have tb : s.TypeIs (.ref b) "list" := ⟨ob, hb, hc⟩
    unfold Builtin.«list.__add__»
    refine wpAny_bind (wpAny_of_eq (a := ((Value.ref l : Value), [Value.ref b])) (by first | rfl | (simp only [slotArgs]; rfl)) ?_)
    refine wpAny_bind (wpAny_isInstance tb f3 ?_)
    simp only [Bool.not_true, Bool.false_eq_true, if_false]
    first
      | exact wpAny_bind (wpAny_bind (wpAny_listItems hl hd (wpAny_bind (wpAny_listItems hb hd2 (wpAny_newObj_type (wpAny_pure ⟨_, rfl, h⟩) (by first | size_fits | (show (items ++ items2).size ≤ sizeLine; rw [Array.size_append]; omega)))))))
      | exact wpAny_bind (wpAny_listItems hl hd (wpAny_bind (wpAny_listItems hb hd2 (wpAny_bind (wpAny_newObj_type (wpAny_pure ⟨_, rfl, h⟩) (by first | size_fits | (show (items ++ items2).size ≤ sizeLine; rw [Array.size_append]; omega)))))))

section
variable {X : Cx}
theorem opl_catL : OpL X (binaryOp .Add) gCatL := ⟨fun pins s σ H m S x y dx dy d v u I q rx ry ex ey e => by
  obtain ⟨i, j, e1, e2, e3⟩ := g2L_inv e
  split at e3
  · rename_i hz
    cases e3
    obtain ⟨a, xs, rfl, ha, r1⟩ := vw_lst q rx e1
    obtain ⟨b, ys, rfl, hb, r2⟩ := vw_lst q ry e2
    obtain rfl : v = Value.ref a := ex
    obtain rfl : u = Value.ref b := ey
    obtain ⟨its, rv, ⟨o, n, h1, h2, hn, h3⟩, hz1⟩ := I.list ha
    obtain ⟨its2, rv2, ⟨o2, n2, g1, g2, gn, g3⟩, hz2⟩ := I.list hb
    have hl : its.length + its2.length ≤ sizeLine := by rw [← rv.length, ← rv2.length, r1.length, r2.length]; exact hz
    refine concat_meets ⟨_, h1, h2⟩ ⟨_, g1, g2⟩ noFill_list_add seq_list_add F.slot_list_add F.entry_list_add (F.args_list_add_2 _ _) (list_add_any a o its.toArray n b o2 its2.toArray n2 (by rw [List.size_toArray, List.size_toArray]; exact hl)) ⟨h1, h3, g1, g2, g3, ?_⟩
    have ea : its.toArray ++ its2.toArray = (its ++ its2).toArray := by simp
    rw [ea]
    have hf : H s.heap.objs.size = none := I.hok.fresh (Nat.le_refl _)
    have hl2 : (xs ++ ys).length ≤ sizeLine := by rw [List.length_append, r1.length, r2.length]; exact hz
    exact ⟨.ref s.heap.objs.size, upd H s.heap.objs.size (.lst (xs ++ ys)), m, I.laid (t' := s.toks) (fun b u e => Heap.get?_push_of_some _ e) (Nat.le_refl _) ⟨hl2, its ++ its2, 0, rv.append rv2, Heap.get?_push_size _ rfl⟩, rfl, Ext.fresh hf, q.fresh hf, vr_newLst q hf (r1.append r2)⟩
  · cases e3⟩
def gAdd2 : G2 := fun S x y => (gAdd S x y).or (gCatL S x y)
theorem opl_add2 : OpL X (binaryOp .Add) gAdd2 := opl_add.or opl_catL
end
open Classical in
noncomputable def tabE (K : PySem.W.Frag) (c : Value) : Addr → Option Bool := fun D => if ExcC K D then PySem.W.kitOne K (.ref D) c else none
theorem exm_of {K : PySem.W.Frag} {S C : Addr} {b : Bool} (h1 : PySem.W.subIn K (.ref S) (.type "BaseException") = some true) (h2 : PySem.W.hasDictIn K S = true) (h3 : PySem.W.typeIn K (.ref S) = some (.type "type")) (h4 : PySem.W.subIn K (.ref C) (.ref S) = some b) :
    PySem.W.exmOne K (.ref C) (.ref S) = some b := by
  have hc : (PySem.W.clsIn K S).isSome = true := by obtain ⟨cd, hc, _⟩ := PySem.W.any_some h2; rw [hc]; rfl
  unfold PySem.W.exmOne PySem.W.kitCls
  rw [h1]
  simp [hc, h3, h4]
end MP

/-! words on texts and lists of texts -/
namespace MP
open PySem PySem.Spec PyProof.Rows L2
section
variable {X : Cx}
/-- a sign in a text -/
def gInSg : G2 := fun S x y => match vw S x, vw S y with
  | .str i, .str z => match i.cps.toList with
    | [c] => some (.bl (decide (c ∈ z.cps.toList)))
    | _ => none
  | _, _ => none
def gLeS : G2 := g2S fun i j => some (.bl (!decide (j.cps.toList < i.cps.toList)))
def gGtS : G2 := g2S fun i j => some (.bl (decide (j.cps.toList < i.cps.toList)))
theorem opl_gtS : OpL X (compareOp .Gt) gGtS := .of op_gt_str fun H m S x y dx dy d q rx ry e => by
  obtain ⟨i, j, e1, e2, e3⟩ := g2S_inv e
  cases e3
  exact ⟨i, j, vw_str rx e1, vw_str ry e2, qv_same q (.bl _)⟩
/-- a text in a list of texts -/
def strsD : List D → Option (List Str)
  | [] => some []
  | .str x :: r => (strsD r).map fun ys => x :: ys
  | _ :: _ => none
theorem strsD_map : ∀ ys : List Str, strsD (ys.map D.str) = some ys
  | [] => rfl
  | y :: ys => by show (strsD (ys.map D.str)).map _ = _; rw [strsD_map ys]; rfl
theorem strsD_eq : ∀ {ds : List D} {ys : List Str}, strsD ds = some ys → ds = ys.map D.str
  | [], ys, h => by cases h; rfl
  | d :: ds, ys, h => by
    cases d with
    | str x =>
      simp only [strsD] at h
      cases q : strsD ds with
      | none => rw [q] at h; cases h
      | some zs => rw [q] at h; cases h; rw [strsD_eq q]; rfl
    | _ => simp [strsD] at h
theorem vrs_strs {K : PySem.W.Frag} {m : List Addr} {H : Hp} : ∀ {vs : List V} {ys : List Str}, VRs K m H vs (ys.map D.str) → vs = ys.map V.str
  | _, [], .nil => rfl
  | _, y :: ys, .cons h r => by cases h; rw [vrs_strs r]; rfl
theorem inV_strs (x : Str) (ys : List Str) : inV (.str x) (ys.map V.str) = decide (x ∈ ys) := by
  unfold inV
  induction ys with
  | nil => simp
  | cons y ys ih =>
    rw [List.map_cons, List.any_cons, ih]
    show ((y == x) || decide (x ∈ ys)) = decide (x ∈ y :: ys)
    by_cases h : y = x
    · subst h; simp
    · have : (y == x) = false := beq_eq_false_iff_ne.mpr h
      simp [this, Ne.symm h]
def gInL : G2 := fun S x y => match vw S x, vw S y with
  | .str i, .lst l => (strsD l).map fun ys => .bl (decide (i ∈ ys))
  | _, _ => none
def gNotInL : G2 := fun S x y => match vw S x, vw S y with
  | .str i, .lst l => (strsD l).map fun ys => .bl (!decide (i ∈ ys))
  | _, _ => none
theorem flat_strs (ys : List Str) : (ys.map V.str).all flatV = true := by simp [flatV]
theorem opl_inL : OpL X (compareOp .In) gInL := .of op_in_seq fun H m S x y dx dy d q rx ry e => by
  unfold gInL at e
  split at e
  · rename_i i l e1 e2
    cases hs : strsD l with
    | none => rw [hs] at e; cases e
    | some ys =>
      rw [hs] at e
      cases e
      have hl := strsD_eq hs
      subst hl
      have ex := vw_str rx e1
      subst ex
      obtain ⟨a, vs, rfl, h1, r⟩ := vw_lst q ry e2
      have hv := vrs_strs r
      subst hv
      refine ⟨a, _, rfl, .inl h1, rfl, flat_strs ys, ?_⟩
      show QV X.K m H S _ (.bl (inV (.str i) (ys.map V.str))) H
      rw [inV_strs]
      exact qv_same q (.bl _)
  · cases e
/-- int(a truth), int(an int) -/
def gInt1 : GC := fun _ ds => match ds with
  | [.int i] => some (.int i)
  | [.bl b] => some (.int (if b then 1 else 0))
  | _ => none
theorem cl_int1 : CallL X (.type "int") gInt1 := .of call_int1 fun H m S xs ds d q r e => by
  unfold gInt1 at e
  split at e
  · cases e
    obtain ⟨v, rfl, rv⟩ := r.one
    cases rv
    exact .inl ⟨_, rfl, qv_same q (.int _)⟩
  · cases e
    obtain ⟨v, rfl, rv⟩ := r.one
    cases rv
    exact .inr ⟨_, rfl, qv_same q (.int _)⟩
  · cases e
/-- a power of any number -/
def gPowB : G2 := g2I fun i j => if 0 ≤ j ∧ (Builtin.Int.intBits i : Int) * j ≤ 2 ^ 27 then some (.int (i ^ j.toNat)) else none
theorem opl_powB : OpL X (binaryOp .Pow) gPowB := ⟨fun pins s σ H m S x y dx dy d v u I q rx ry ex ey e => by
  obtain ⟨i, j, e1, e2, e3⟩ := g2I_inv e
  split at e3
  · rename_i hz
    cases e3
    have h1 := vw_int rx e1
    have h2 := vw_int ry e2
    subst h1 h2
    obtain ⟨t, rfl⟩ := ex
    obtain ⟨t2, rfl⟩ := ey
    exact pow_int hz.1 hz.2 ⟨.int _, H, m, I.tok _, ⟨_, rfl⟩, Ext.refl, q, .int _⟩
  · cases e3⟩
end
/-! ### split, join, strip -/
section
variable {X : Cx}
def stSplit : GM := fun S r ds => match r, ds with
  | .str a, [.str b] => if (b.length == 0) = false ∧ a.length + 2 ≤ sizeLine then some (.lst ((Txt.split a b).map D.str), S) else none
  | _, _ => none
def stStripC : GM := fun S r ds => match r, ds with
  | .str a, [.str b] => if a.length ≤ sizeLine then some (.str (Txt.stripChars a b), S) else none
  | _, _ => none
def stJoin : GM := fun S r ds => match r, ds with
  | .str a, [d] => match vw S d with
    | .lst l => match strsD l with
      | some ys => if (ys.map (·.length)).sum + ys.length * a.length ≤ 16777216 then some (.str (Txt.join a ys), S) else none
      | none => none
    | _ => none
  | _, _ => none
theorem mtl_join : MtL X "str.join" stJoin := ⟨fun pins s σ H m S S' x dx d xs ds v us I q r rs rv rvs e => by
  unfold stJoin at e
  split at e
  · rename_i a d0
    split at e
    · rename_i l hl
      split at e
      · rename_i ys hs
        split at e
        · rename_i hz
          cases e
          cases r
          obtain ⟨w, rfl, rw'⟩ := rs.one
          have he := strsD_eq hs
          subst he
          obtain ⟨p, vs, rfl, h1, r1⟩ := vw_lst q rw' hl
          have hv := vrs_strs r1
          subst hv
          exact thn (mt_join pins s σ H _ _ v us (QV X.K m H S _) I rv rvs ⟨a, p, ys, rfl, rfl, .inl h1, hz, qv_same q (.str _)⟩) fun _ _ z => vp_of z
        · cases e
      · cases e
    · cases e
  · cases e⟩
variable {o e : Expr} {lo le : LE} {apos cpos : Pos}
theorem pel_strjoin (ho : PEL X o lo) (he : PEL X e le)
    (hbase : attributeBase o "join" X.env (eval o X.env) = eval o X.env := by rfl)
    (hfew : ((backTo cpos (starEach [e] X.env)).all (fun x => !x.1) && (backToKw cpos (keywordEach [] X.env)).all (fun x => x.1.isSome)
      && decide ([e].length + ([] : List Keyword).length + (if ([] : List Keyword).isEmpty then 0 else 1) < 30)) = true := by rfl)
    (hline : (apos.endLine == cpos.line) = true := by rfl) (hs : starEach [e] X.env = (false, eval e X.env) :: starEach [] X.env := by rfl) :
    PEL X (.Call (.Attribute o "join" apos) [e] [] cpos) (lBM "str" stJoin lo (aCons le aNil)) :=
  pel_bm PySem.F.plainAttrs_str PySem.F.slot_str_join PySem.F.type_str_join mtl_join ho (pal_cons he pal_nil hs) hbase hfew hline hs
end
end MP

/-! zip of two; pairs of texts by < -/
namespace MP
open PySem PySem.Spec PyProof.Rows L2
def zipD (xs ys : List D) : List D := List.zipWith (fun x y => D.tup [x, y]) xs ys
section
variable {K : PySem.W.Frag} {m1 : List Addr} {H1 : Hp}
end
def zipOf : List D → Option (List D)
  | [.lst xs, .lst ys] => some (zipD xs ys)
  | [.tup xs, .tup ys] => some (zipD xs ys)
  | [.ftup xs, .tup ys] => some (zipD xs ys)
  | [.ftup xs, .ftup ys] => some (zipD xs ys)
  | _ => none
def lZip (t : LA) : LI := fun ρ S => (t ρ S).bind fun ds S1 => match zipOf ds with
  | some items => .ok ⟨items, fun _ => True⟩ S1
  | none => .bad
section
variable {X : Cx} {e e2 : Expr} {t : LA} {p pos tpos : Pos} {elts : List Expr} {kk : Nat}
/-! ### pairs of texts by < -/
def ltP (a b c d : Str) : Bool := if a = c then (if b = d then false else decide (b.cps.toList < d.cps.toList)) else decide (a.cps.toList < c.cps.toList)
def gLtP : G2 := g2T fun xs ys => match xs, ys with
  | [.str a, .str b], [.str c, .str d] => some (.bl (ltP a b c d))
  | _, _ => none
theorem rc_lt_str {A : Around} {s : Shared} (a b : Str) (t u : Tok) : Ob.RcOp .Lt A s (.str a t) (.str b u) (decide (a.cps.toList < b.cps.toList)) := fun _ _ _ _ h => by
  show wpAny _ _ (compareOp .Lt (.str a t) (.str b u)) _ _ _
  exact PyProof.Rows.lt_str h
theorem opl_ltP (hu : X.A.units + 64 < cLine) : OpL X (compareOp .Lt) gLtP := ⟨fun pins s σ H m S x y dx dy d v u I q rx ry ex ey e0 => by
  obtain ⟨xs, ys, e1, e2, e3⟩ := (show ∃ i j, vw S dx = .tup i ∧ vw S dy = .tup j ∧ _ from g2T_inv e0)
  split at e3
  · rename_i a b c d'
    cases e3
    obtain ⟨p, vs, rfl, h1, r1⟩ := vw_tup rx e1
    obtain ⟨p2, ws, rfl, h2, r2⟩ := vw_tup ry e2
    obtain rfl : v = Value.ref p := ex
    obtain rfl : u = Value.ref p2 := ey
    obtain ⟨v1, v2, rfl, w1, w2⟩ := r1.two
    obtain ⟨z1, z2, rfl, k1, k2⟩ := r2.two
    cases w1
    cases w2
    cases k1
    cases k2
    obtain ⟨its, rv, pp, hz⟩ := I.tuple (SqT.of h1)
    obtain ⟨its2, rv2, pp2, hz2⟩ := I.tuple (SqT.of h2)
    cases rv with
    | cons ra rr =>
      cases rr with
      | cons rb rn =>
        cases rn
        obtain ⟨ta, rfl⟩ := ra
        obtain ⟨tb, rfl⟩ := rb
        cases rv2 with
        | cons rc rr2 =>
          cases rr2 with
          | cons rd rn2 =>
            cases rn2
            obtain ⟨tc, rfl⟩ := rc
            obtain ⟨td, rfl⟩ := rd
            have R := Ob.RcOp.tuples_lt (A := X.A) (s := s) (e := fun j => if j = 0 then (a == c) else (b == d')) (r := fun j => if j = 0 then decide (a.cps.toList < c.cps.toList) else decide (b.cps.toList < d'.cps.toList)) pp pp2 (by omega)
              (fun j h1 h2 => by
                match j, h1 with
                | 0, _ => exact SeqAt.EqAt.str_str a ta c tc
                | 1, _ => exact SeqAt.EqAt.str_str b tb d' td
                | n + 2, h => simp at h; omega)
              (fun j h1 h2 _ => by
                match j, h1 with
                | 0, _ => exact rc_lt_str a c ta tc
                | 1, _ => exact rc_lt_str b d' tb td
                | n + 2, h => simp at h; omega)
            have e5 : Ob.lexAt (fun j => if j = 0 then (a == c) else (b == d')) (fun j => if j = 0 then decide (a.cps.toList < c.cps.toList) else decide (b.cps.toList < d'.cps.toList)) (decide ([Value.str a ta, Value.str b tb].toArray.size < [Value.str c tc, Value.str d' td].toArray.size)) 0 (min [Value.str a ta, Value.str b tb].toArray.size [Value.str c tc, Value.str d' td].toArray.size) = ltP a b c d' := by
              show (if (a == c) = true then (if (b == d') = true then decide ((2 : Nat) < 2) else decide (b.cps.toList < d'.cps.toList)) else decide (a.cps.toList < c.cps.toList)) = ltP a b c d'
              unfold ltP
              simp
            rw [e5] at R
            exact R X.prog X.w X.xe _ ⟨.bl (ltP a b c d'), H, m, I, rfl, Ext.refl, q, .bl _⟩
  · cases e3⟩
def gLt2 : G2 := fun S x y => ((gLtI S x y).or (gLtS S x y)).or (gLtP S x y)
theorem opl_lt2 (hu : X.A.units + 64 < cLine) : OpL X (compareOp .Lt) gLt2 := (opl_ltI.or opl_ltS).or (opl_ltP hu)
def gLe2 : G2 := fun S x y => (gLeI S x y).or (gLeS S x y)
def gGt2 : G2 := fun S x y => (gGtI S x y).or (gGtS S x y)
theorem opl_gt2 : OpL X (compareOp .Gt) gGt2 := opl_gtI.or opl_gtS
end
end MP

/-! len(set(texts)) of any number of texts (the road of HandS.Strs, which serves one text at most) -/
namespace MP
open PySem PySem.Spec PyProof.Rows L2
/-- how many of the first i texts are met for the first time -/
def cntS (xs : List Str) : Nat → Nat
  | 0 => 0
  | i + 1 => if (xs.take i).any (· == xs.getD i Str.empty) = true then cntS xs i else cntS xs i + 1
abbrev metS (xs : List Str) (i : Nat) : Str → Bool := fun k => (xs.take i).any (· == k)
section
variable {P : Program} {w : World} {A : Around} {R : Result → Shared → Prop} {E : Value → Shared → Prop} {s : Shared}
end
/-- len(set(a list of texts)) -/
def gLenSet : GC := fun S ds => match ds with
  | [d] => match vw S d with
    | .lst l => match strsD l with
      | some ys => if ys.length ≤ 4000 then some (.int (cntS ys ys.length : Int)) else none
      | none => none
    | _ => none
  | _ => none
end MP

/-! x[::-1], x[a:b] * k, a, b, c = .., isinstance(e, (C, ..)) of an exception -/
namespace MP
open PySem PySem.Spec PyProof.Rows L2
theorem VRs.reverse {K : PySem.W.Frag} {m : List Addr} {H : Hp} : ∀ {vs : List V} {ds : List D}, VRs K m H vs ds → VRs K m H vs.reverse ds.reverse
  | _, _, .nil => .nil
  | _, _, .cons h r => by
    rw [List.reverse_cons, List.reverse_cons]
    exact r.reverse.append (.cons h .nil)
theorem VRs.rep {K : PySem.W.Frag} {m : List Addr} {H : Hp} {vs : List V} {ds : List D} (r : VRs K m H vs ds) : ∀ n : Nat, VRs K m H (List.replicate n vs).flatten (List.replicate n ds).flatten
  | 0 => .nil
  | n + 1 => by
    rw [List.replicate_succ, List.replicate_succ, List.flatten_cons, List.flatten_cons]
    exact r.append (r.rep n)
/-- a text backwards, as the model says it -/
def revS (z : Str) : Str := ⟨((Builtin.Str.strSliceIndices none none (-1) z.length).filterMap (z.cps[·]?)).toArray⟩
def gRev (S : Sto) (d : D) : Option D := match vw S d with
  | .lst xs => some (.lst xs.reverse)
  | .str z => if (revS z).length ≤ sizeLine then some (.str (revS z)) else none
  | _ => none
section
variable {X : Cx} {e b : Expr} {le lb : LE} {k : Nat} {p1 p2 p3 pos : Pos}
theorem pel_rev (he : PEL X e le) : PEL X (.Subscript e (.Slice none none (some (.UnaryOp .USub (.Constant (.int 1) k p1) p2)) p3) pos) (lUn gRev le) := by
  refine ⟨fun pins s σ H m ρ S I x r hp => ?_⟩
  refine Subscript_ (run_seq he I x r hp fun d S1 q1 v u s1 H1 m1 I1 rv e1 x1 w1 r1 hp1 => ?_)
  obtain ⟨d', q2⟩ := lift_ok hp1
  have e0 : lUn gRev le ρ S = .ok d' S1 := by unfold lUn; rw [q1, bind_ok, q2]; rfl
  rw [e0]
  have hst : PO X (some (.UnaryOp .USub (.Constant (.int 1) k p1) p2)) (tPart (tUn (rU fun i => .int (-i)) (tC (.int 1)))) := po_some (pe_un un_neg pe_int)
  refine wpAny_Slice (thn (po_none.run pins s1 σ H1 (fun o H2 => o = none ∧ H2 = H1) I1 ⟨rfl, rfl⟩) fun vl s2 ⟨l, H2, I2, pl, el, e2⟩ => ?_)
  subst el e2
  refine thn (po_none.run pins s2 σ H2 (fun o H3 => o = none ∧ H3 = H2) I2 ⟨rfl, rfl⟩) fun vu s3 ⟨u2, H3, I3, pu, eu, e3⟩ => ?_
  subst eu e3
  refine thn (hst.run pins s3 σ H3 (fun o H4 => o = some (-1) ∧ H4 = H3) I3 ⟨1, rfl, -1, rfl, rfl, rfl⟩) fun vs s4 ⟨o, H4, I4, ps, eo, e4⟩ => ?_
  subst eo e4
  have I5 : Inv X pins σ H4 { s4 with heap := s4.heap.push { cls := .type "slice", data := .fields #[vl, vu, vs] } } := I4.kept (t' := s4.toks) fun b ob q => Heap.get?_push_of_some _ q
  show wpAny (model X.prog X.w) X.A (subscriptTail e (.Slice none none (some (.UnaryOp .USub (.Constant (.int 1) k p1) p2)) p3) u (.ref s4.heap.objs.size)) _ X.xe { s4 with heap := s4.heap.push { cls := .type "slice", data := .fields #[vl, vu, vs] } }
  unfold gRev at q2
  split at q2
  · rename_i xs hv
    cases q2
    obtain ⟨a, ws, rfl, hx, rr⟩ := vw_lst x1 w1 hv
    obtain rfl : u = Value.ref a := rv
    obtain ⟨its, r', ht, hz⟩ := I5.list hx
    have hlen := r'.length
    refine tail_any (ops := [.ref a, .ref s4.heap.objs.size]) ht.isList.typeIs (PySem.slot_list_getitem.lookup) ?_ (by with_unfolding_all rfl)
    refine wpAny_getItem_list_slice ht.isList (Heap.IsSliceOf.new _ vl vu vs) pl pu ps (by decide) ?_ (by rw [List.size_toArray]; omega)
    rw [PySem.W.krv_pick]
    have hf : H4 (s4.heap.objs.size + 1) = none := by
      have := I5.hok.fresh (Nat.le_refl (s4.heap.push { cls := .type "slice", data := .fields #[vl, vu, vs] }).objs.size)
      rw [Heap.size_push] at this
      exact this
    have hf2 : H4 (s4.heap.push { cls := .type "slice", data := .fields #[vl, vu, vs] }).objs.size = none := I5.hok.fresh (Nat.le_refl _)
    exact (vpr_of ⟨.ref _, upd H4 _ (.lst ws.reverse), m1, I5.laid (t' := s4.toks) (o := .lst ws.reverse) (fun b ob q => Heap.get?_push_of_some _ q) (Nat.le_refl _) ⟨by rw [List.length_reverse]; exact hz, _, 0, r'.reverse, Heap.get?_push_size _ rfl⟩, rfl, Ext.fresh hf2, x1.fresh hf2, vr_newLst x1 hf2 rr.reverse⟩).left e1
  · rename_i z hv
    split at q2
    · rename_i hz
      cases q2
      have ez := vw_str w1 hv
      subst ez
      obtain ⟨t, rfl⟩ := rv
      obtain ⟨os, hos, hcs, hds⟩ := Heap.IsSliceOf.new s4.heap vl vu vs
      obtain ⟨l', rfl, hl'⟩ := IsPart.raw pl
      obtain ⟨u', rfl, hu'⟩ := IsPart.raw pu
      obtain ⟨st', rfl, hst'⟩ := IsPart.raw ps
      refine tail_any (ops := [.str z t, .ref s4.heap.objs.size]) (typeIs_str _ _ _) (F.slot_str_getitem.lookup) ?_ (by with_unfolding_all rfl)
      refine wpAny_getItem_str_slice (l := l') (u := u') (st := st') ⟨os, hos, hcs, hds⟩ (by rw [hst']; rfl) ?_
      unfold sliceMade slicePicked
      rw [hl', hu', hst']
      show Made.post (if ((-1 : Int) == 1 && (Builtin.Str.strSliceIndices none none (-1) z.length).length == z.length) = true then Made.val (.str z t) else Made.str (revS z)) _ _
      rw [show ((-1 : Int) == 1) = false from rfl, Bool.false_and, if_neg Bool.false_ne_true]
      exact ⟨hz, (vpr_of ⟨.str _, H4, m1, I5.tok _, ⟨_, rfl⟩, Ext.refl, x1, .str _⟩).left e1⟩
    · cases q2
  · cases q2
/-! ### a, b, c = .. -/
def lPar3 (i j l : Nat) (t : LA) : LS := fun ρ S => liftX ρ (t ρ S) fun ds S1 => match ds with
  | [a, b, c] => .ok (.nx (((ρ.set i (some a)).set j (some b)).set l (some c))) S1
  | _ => .bad
theorem psl_par3 {i j l : Nat} {x y z : Str} {a b c : Expr} {t : LA} {px py pz pt pos : Pos} {kt k2 pt2} (hc : X.calm = true) (hN : X.N.Nodup) (ha : PAL X [a, b, c] t) (hi : X.N[i]? = some x := by rfl) (hj : X.N[j]? = some y := by rfl) (hl : X.N[l]? = some z := by rfl)
    (hij : i ≠ j := by decide) (hil : i ≠ l := by decide) (hjl : j ≠ l := by decide)
    (hx : X.env.scope.names.lookup x = some .local := by rfl) (hy : X.env.scope.names.lookup y = some .local := by rfl) (hz : X.env.scope.names.lookup z = some .local := by rfl)
    (hw : swappedStores [.Tuple [.Name x px, .Name y py, .Name z pz] kt pt] (.Tuple [a, b, c] k2 pt2) X.env = pure (some [x, y, z]) := by rfl)
    (hs : swapsWithSole [.Tuple [.Name x px, .Name y py, .Name z pz] kt pt] (.Tuple [a, b, c] k2 pt2) pos.line X.env = pure false := by rfl) :
    PSL X (.Assign [.Tuple [.Name x px, .Name y py, .Name z pz] kt pt] (.Tuple [a, b, c] k2 pt2) pos) (lPar3 i j l t) := by
  refine ps_imp (ps_par3 hc hN hi hj hl hij hil hjl hx hy hz ha.pa hw hs) fun D σ H ⟨m, ρ, S, x0, er, hl, h⟩ => ?_
  have h' : HS X D m H (liftX ρ (t ρ S) fun ds S1 => match ds with
    | [a, b, c] => .ok (.nx (((ρ.set i (some a)).set j (some b)).set l (some c))) S1
    | _ => .bad) := h
  refine ⟨m, ρ, S, x0, er, HS.hope h' er hl x0, fun ds S1 q vs H1 m1 e1 x1 w => ?_⟩
  rw [q] at h'
  have h2 := HS.ext h' e1
  have bad : ∀ {r : R Fl}, r = .bad → HS X D m1 H1 r → False := fun e z => by
    subst e
    obtain ⟨fl, S', q⟩ := z.ok
    cases q
  match ds, w with
  | [], _ => exact (bad rfl h2).elim
  | [_], _ => exact (bad rfl h2).elim
  | [_, _], _ => exact (bad rfl h2).elim
  | _ :: _ :: _ :: _ :: _, _ => exact (bad rfl h2).elim
  | [d1, d2, d3], .cons w1 (.cons w2 (.cons w3 .nil)) =>
    have er1 := er.ext e1 x0.muts
    exact ⟨_, _, _, rfl, h2.nx _ S1 rfl _ H1 (sv_same x1 (((er1.set w1).set w2).set w3) (by simp [hl]))⟩
/-! ### isinstance of an exception and a tuple of classes -/
open Classical in
noncomputable def tabT (K : PySem.W.Frag) (cs : List Value) : Addr → Option Bool := fun D => if ExcC K D then PySem.W.kitAny K (.ref D) cs else none
structure IsTOk (K : PySem.W.Frag) (cs : List Value) (tab : Addr → Option Bool) : Prop where
  one : ∀ C b, tab C = some b → PySem.W.kitAny K (.ref C) cs = some b ∧ ExcC K C
def refsV (Cs : List Addr) : List V := Cs.map V.ref
def refsU (Cs : List Addr) : List Value := Cs.map Value.ref
end
end MP

/-! a list's slice times a number -/
namespace MP
open PySem PySem.Spec PyProof.Rows L2
def lSlMul (la : LE) (lo hi : LO) (lb : LE) : LE := fun ρ S => (la ρ S).bind fun d S1 => (lo ρ S1).bind fun i S2 => (hi ρ S2).bind fun j S3 => match vw S3 d with
  | .lst xs => (lb ρ S3).bind fun y S4 => match y with
    | .int k => if 0 ≤ k ∧ k ≤ 1000 ∧ (cutD xs i j).length * k.toNat ≤ sizeLine then .ok (.lst (List.replicate k.toNat (cutD xs i j)).flatten) S4 else .bad
    | _ => .bad
  | _ => .bad
section
variable {X : Cx} {e b : Expr} {l lb : LE} {pos pos2 : Pos}
end
end MP

/-! small things -/
namespace MP
open PySem PySem.Spec PyProof.Rows L2
def lBad : LS := fun _ _ => .bad
/-- a statement that is never reached -/
theorem psl_bad {X : Cx} {st : Stmt} : PSL X st lBad := ⟨fun pins s σ H D I ⟨m, ρ, S, x, er, hl, h⟩ => by
  obtain ⟨fl, S', q⟩ := h.ok
  cases q⟩
def tabStr : Tab
  | .str => some true
  | _ => none
def tabTup : Tab
  | .tup => some true
  | _ => none
/-! ### how the words compute -/
theorem add2_ii {S : Sto} {i j : Int} : gAdd2 S (.int i) (.int j) = some (.int (i + j)) := rfl
theorem add2_ss {S : Sto} {i j : Str} (h : i.length + j.length ≤ sizeLine) : gAdd2 S (.str i) (.str j) = some (.str (i ++ j)) := by
  show (((if i.length + j.length ≤ sizeLine then some (D.str (i ++ j)) else none).or (gCat S (.str i) (.str j))).or _) = _
  rw [if_pos h]; rfl
theorem ife_tt {t : LT} {la lb : LE} {ρ : Ev} {S S1 : Sto} {r : R D} (h : t ρ S = .ok true S1) (h2 : la ρ S1 = r) : lIf t la lb ρ S = r := by
  unfold lIf; rw [h, bind_ok, if_pos rfl]; exact h2
theorem ife_ff {t : LT} {la lb : LE} {ρ : Ev} {S S1 : Sto} {r : R D} (h : t ρ S = .ok false S1) (h2 : lb ρ S1 = r) : lIf t la lb ρ S = r := by
  unfold lIf; rw [h, bind_ok, if_neg Bool.false_ne_true]; exact h2
theorem andv_tt {la lb : LE} {ρ : Ev} {S S1 : Sto} {d : D} {r : R D} (h : la ρ S = .ok d S1) (ht : truth S1 d = some true) (h2 : lb ρ S1 = r) : lAndV la lb ρ S = r := by
  unfold lAndV; rw [h, bind_ok, ht]; exact h2
theorem andv_ff {la lb : LE} {ρ : Ev} {S S1 : Sto} {d : D} (h : la ρ S = .ok d S1) (ht : truth S1 d = some false) : lAndV la lb ρ S = .ok d S1 := by
  unfold lAndV; rw [h, bind_ok, ht]; rfl
theorem orv_tt {la lb : LE} {ρ : Ev} {S S1 : Sto} {d : D} (h : la ρ S = .ok d S1) (ht : truth S1 d = some true) : lOrV la lb ρ S = .ok d S1 := by
  unfold lOrV; rw [h, bind_ok, ht]; rfl
theorem orv_ff {la lb : LE} {ρ : Ev} {S S1 : Sto} {d : D} {r : R D} (h : la ρ S = .ok d S1) (ht : truth S1 d = some false) (h2 : lb ρ S1 = r) : lOrV la lb ρ S = r := by
  unfold lOrV; rw [h, bind_ok, ht]; exact h2
theorem asg_ok {g : GT} {l : LE} {ρ ρ1 : Ev} {S S1 : Sto} {d : D} (h : l ρ S = .ok d S1) (hg : g d ρ = some ρ1) : lAsg g l ρ S = .ok (.nx ρ1) S1 := by
  unfold lAsg; rw [h]
  show (match g d ρ with | some ρ1 => R.ok (Fl.nx ρ1) S1 | none => .bad) = _
  rw [hg]
theorem par3_ok {i j l : Nat} {t : LA} {ρ : Ev} {S S1 : Sto} {a b c : D} (h : t ρ S = .ok [a, b, c] S1) : lPar3 i j l t ρ S = .ok (.nx (((ρ.set i (some a)).set j (some b)).set l (some c))) S1 := by
  unfold lPar3; rw [h]; rfl
theorem slice_ok {g : Sto → D → Option Int → Option Int → Option D} {la : LE} {lo hi : LO} {ρ : Ev} {S S1 S2 S3 : Sto} {d e : D} {i j : Option Int} (h1 : la ρ S = .ok d S1) (h2 : lo ρ S1 = .ok i S2) (h3 : hi ρ S2 = .ok j S3) (h4 : g S3 d i j = some e) : lSlice g la lo hi ρ S = .ok e S3 := by
  unfold lSlice; rw [h1, bind_ok, h2, bind_ok, h3, bind_ok, h4]; rfl
theorem osome_ok {l : LE} {ρ : Ev} {S S1 : Sto} {i : Int} (h : l ρ S = .ok (.int i) S1) : oSome l ρ S = .ok (some i) S1 := by
  unfold oSome; rw [h]; rfl
theorem un_ok {g : Sto → D → Option D} {la : LE} {ρ : Ev} {S S1 : Sto} {x d : D} (h1 : la ρ S = .ok x S1) (h2 : g S1 x = some d) : lUn g la ρ S = .ok d S1 := by
  unfold lUn; rw [h1, bind_ok, h2]; rfl
theorem listN_ok {t : LA} {ρ : Ev} {S S1 : Sto} {ds ys : List D} (h : t ρ S = .ok ds S1) (h2 : gItems S1 ds = some ys) : lListN t ρ S = .ok (.ref S1.length) (S1 ++ [.lst ys]) := by
  unfold lListN; rw [h, bind_ok, h2]
theorem bms_ok {g : GM} {lo : LE} {t : LA} {ρ : Ev} {S S1 S2 S3 : Sto} {z : Str} {e : D} {ds : List D} (h1 : lo ρ S = .ok (.str z) S1) (h3 : t ρ S1 = .ok ds S2) (h4 : g S2 (.str z) ds = some (e, S3)) : lBM "str" g lo t ρ S = .ok e S3 := by
  unfold lBM; rw [h1, bind_ok, if_pos (show isTy "str" S1 (.str z) = true from rfl), h3, bind_ok, h4]; rfl
/-- a comprehension with a test -/
theorem comp_skip {ρ0 ρ1 : Ev} {chk : Sto → Prop} {g : GT} {tt : LT} {te : LE} {d : D} {ds : List D} {S S1 : Sto} {r : R (List D)} (hc : chk S) (hg : g d ρ0 = some ρ1) (ht : tt ρ1 S = .ok false S1) (h2 : compG chk g tt te ρ0 ds S1 = r) : compG chk g tt te ρ0 (d :: ds) S = r := by
  unfold compG; rw [if_pos hc, hg]; show (noex (tt ρ1 S)).bind _ = _; rw [ht]; exact h2
theorem comp_take {ρ0 ρ1 : Ev} {chk : Sto → Prop} {g : GT} {tt : LT} {te : LE} {d y : D} {ds ys : List D} {S S1 S2 S3 : Sto} (hc : chk S) (hg : g d ρ0 = some ρ1) (ht : tt ρ1 S = .ok true S1) (he : te ρ1 S1 = .ok y S2) (h2 : compG chk g tt te ρ0 ds S2 = .ok ys S3) : compG chk g tt te ρ0 (d :: ds) S = .ok (y :: ys) S3 := by
  unfold compG; rw [if_pos hc, hg]; show (noex (tt ρ1 S)).bind _ = _; rw [ht]
  show (noex (te ρ1 S1)).bind _ = _
  rw [he]
  show (compG chk g tt te ρ0 ds S2).bind _ = _
  rw [h2]; rfl
/-- over any items, some kept: the store stays -/
theorem comp_filter {α : Type} {chk : Sto → Prop} {g : GT} {tt : LT} {te : LE} {ρ0 : Ev} {S : Sto} {enc f : α → D} {p : α → Bool} (hc : chk S) : ∀ xs : List α, (∀ x ∈ xs, ∃ ρ1, g (enc x) ρ0 = some ρ1 ∧ tt ρ1 S = .ok (p x) S ∧ (p x = true → te ρ1 S = .ok (f x) S)) →
    compG chk g tt te ρ0 (xs.map enc) S = .ok ((xs.filter p).map f) S
  | [], _ => comp_end hc
  | x :: xs, h => by
    obtain ⟨ρ1, h1, h2, h3⟩ := h x (by simp)
    have ih := comp_filter (f := f) hc xs fun y hy => h y (by simp [hy])
    cases q : p x with
    | true =>
      rw [q] at h2
      rw [List.filter_cons_of_pos q, List.map_cons, List.map_cons]
      exact comp_take hc h1 h2 (h3 q) ih
    | false =>
      rw [q] at h2
      rw [List.filter_cons_of_neg (by rw [q]; exact Bool.false_ne_true), List.map_cons]
      exact comp_skip hc h1 h2 ih
theorem comp_map {α : Type} {chk : Sto → Prop} {g : GT} {te : LE} {ρ0 : Ev} {S : Sto} {enc f : α → D} (hc : chk S) (xs : List α) (h : ∀ x ∈ xs, ∃ ρ1, g (enc x) ρ0 = some ρ1 ∧ te ρ1 S = .ok (f x) S) : compG chk g tYesL te ρ0 (xs.map enc) S = .ok (xs.map f) S := by
  have := comp_filter (p := fun _ => true) (tt := tYesL) (f := f) hc xs fun x hx => by
    obtain ⟨ρ1, h1, h2⟩ := h x hx
    exact ⟨ρ1, h1, rfl, fun _ => h2⟩
  rw [List.filter_eq_self.mpr (fun _ _ => rfl)] at this
  exact this
theorem comp_okL {li : LI} {ix : List Nat} {g : GT} {tt : LT} {te : LE} {ρ : Ev} {S S1 S2 : Sto} {it : Its'} {ys : List D} (h : li ρ S = .ok it S1) (hl : it.items.length ≤ 100000) (h2 : compG it.chk g tt te (wipeE ρ ix) it.items S1 = .ok ys S2) : lComp li ix g tt te ρ S = .ok (.lst ys) S2 := by
  unfold lComp compL
  rw [h, bind_ok, if_pos (Nat.le_trans hl (by decide)), h2, bind_ok]
theorem vw_ref {S : Sto} {j : Nat} {xs : List D} (h : S[j]? = some (.lst xs)) : vw S (.ref j) = .lst xs := by unfold vw; dsimp only; rw [h]
theorem set_self {S : Sto} {j : Nat} {o o' : O} (h : S[j]? = some o) : (S.set j o')[j]? = some o' := List.getElem?_set_self (List.getElem?_eq_some_iff.mp h).1
theorem sml {c : Int} (a : 0 ≤ c) (b : c < 10 ^ 100) : Sm c := Sm.of a b (by decide +kernel)
theorem lx {j : Nat} {xs : List D} {S : Sto} {k : Int} {d : D} {ρ : Ev} {i : Nat} (h : S[j]? = some (.lst xs)) (hd : atI xs k = some d) (hv : lVar i ρ S = .ok (.ref j) S) : lBin gIx (lVar i) (lC (.int k)) ρ S = .ok d S := bin_ok hv rfl (ix_ref h hd)
end MP

/-! sets of texts with a table that can be walked: sorted(set(texts)) (the road that HandS.Set takes for ints) -/
namespace MP
open PySem PySem.Spec PyProof.Rows L2
def keyS (e : Int × Value) : Str := match e.2 with
  | .str k _ => k
  | _ => Str.empty
def GoodS (w : World) (e : Int × Value) : Prop := ∃ k tk, e.2 = Value.str k tk ∧ e.1 = hashStr w k
/-- the members, their number; the table rises -/
structure SetS (w : World) (h : Heap) (a : Addr) (T : Str → Bool) (n : Nat) : Prop where
  ex : ∃ o es ep t, h.get? a = some o ∧ o.ExactSet ∧ o.data = .set es ep t ∧ (∀ e ∈ es.toList, GoodS w e) ∧ (es.toList.map keyS).Nodup ∧ (∀ k, T k = true ↔ k ∈ es.toList.map keyS) ∧ es.size < scanBound ∧ t.fits es.size = true ∧ es.size = n ∧ Ris t.place.toList ∧ (w.params.followText "set-order" = true ∨ t.led = true)
section
variable {P : Program} {w : World} {h h' : Heap} {a : Addr} {T : Str → Bool} {n : Nat}
theorem SetS.keep (R : SetS w h a T n) (k : ∀ o, h.get? a = some o → h'.get? a = some o) : SetS w h' a T n := by
  obtain ⟨o, es, ep, t, ho, r⟩ := R.ex
  exact ⟨o, es, ep, t, k o ho, r⟩
theorem SetS.congr {T' : Str → Bool} {n' : Nat} (R : SetS w h a T n) (e : ∀ k, T' k = T k) (en : n' = n) : SetS w h a T' n' := by
  have q : T' = T := funext e
  rw [q, en]; exact R
end
section
variable {P : Program} {w : World} {A : Around} {E : Value → Shared → Prop} {s : Shared} {a : Addr} {T : Str → Bool} {n : Nat}
end
end MP

/-! set(texts) made of a list; sorted(set(texts)) -/
namespace MP
open PySem PySem.Spec PyProof.Rows L2
section
variable {P : Program} {w : World} {A : Around} {R : Result → Shared → Prop} {E : Value → Shared → Prop} {s : Shared}
def keyV : Value → Str
  | .str k _ => k
  | _ => Str.empty
end
end MP

/-! sorted(set(a list of texts)) as an expression -/
namespace MP
open PySem PySem.Spec PyProof.Rows L2
def nubS : List Str → List Str
  | [] => []
  | x :: r => if x ∈ r then nubS r else x :: nubS r
def leS (a b : Str) : Bool := decide (a.cps.toList ≤ b.cps.toList)
def srtS (ys : List Str) : List Str := (nubS ys).mergeSort leS
/-- sorted(set(a list of texts)) -/
def gSortSet : GC := fun S ds => match ds with
  | [d] => match vw S d with
    | .lst l => match strsD l with
      | some ys => if ys.length ≤ 4000 then some (.lst ((srtS ys).map D.str)) else none
      | none => none
    | _ => none
  | _ => none
end MP

/-! a list, a tuple, times a number -/
namespace MP
open PySem PySem.Spec PyProof.Rows L2
theorem q_mul_int (l : Addr) (items : Array Value) (n : Nat) (d : Option Addr) (sl : Array (Option Value)) (x : Int) (u : Tok) (hc0 : ¬(!Builtin.List.listFitsIndex x) = true)
    (hc1 : ¬items.size * x.toNat > (2 ^ 63 - 1) / 8) (hc2 : ¬Builtin.List.listTooLong (items.size * x.toNat) = true) :
    Meets (Builtin.«list.__mul__» ⟨[.ref l, .int x u], []⟩) (fun _ R s => s.heap.get? l = some { cls := .type "list", dict := d, data := .seq items n, slots := sl } ∧ R (.ok (.ret (Value.ref s.heap.objs.size))) { s with heap := s.heap.push { cls := Value.type "list", data := Data.seq (List.foldl (fun x1 x2 => x1 ++ x2) #[] (List.replicate (if items.isEmpty = true then 0 else x.toNat) items)) }, toks := s.toks }) :=
  .of_wp fun prog w A R s h => by
    obtain ⟨hp, g, d, tk, os⟩ := s; obtain ⟨hl, h⟩ := h
    have hsz := AutoListH.joined_fits hc2
    wp_walk; refine wpAny_ite_false (decide_eq_false (Nat.not_lt.mpr hsz)) ?_; wp_walk; exact ⟨_, rfl, h⟩
theorem q_rmul_int (a : Int) (t : Tok) (l : Addr) (items : Array Value) (n : Nat) (d : Option Addr) (sl : Array (Option Value)) :
    Meets (Builtin.«int.__rmul__» ⟨[.int a t, .ref l], []⟩) (fun _ R s => s.heap.get? l = some { cls := .type "list", dict := d, data := .seq items n, slots := sl } ∧ R (.ok (.ret Value.notImplemented)) s) :=
  .of_wp fun prog w A R s h => by obtain ⟨hp, g, d, tk, os⟩ := s; obtain ⟨hl, h⟩ := h; wp_walk; exact ⟨_, rfl, h⟩
theorem q_tup_empty (l : Addr) (n : Nat) (dd : Option Addr) (sl : Array (Option Value)) (x : Int) (u : Tok) (c0 : (decide (x < -(2 ^ 63)) || decide (x ≥ 2 ^ 63)) = false) :
    Meets (Builtin.«tuple.__mul__» ⟨[.ref l, .int x u], []⟩) (fun _ R s => s.heap.get? l = some { cls := .type "tuple", dict := dd, data := .seq #[] n, slots := sl } ∧ R (.ok (.ret (Value.ref l))) s) :=
  .of_wp fun prog w A R s h => by
    obtain ⟨hp, g, d, tk, os⟩ := s
    obtain ⟨hl, h⟩ := h
    have f1 := AutoSeq1.idx_int
    wp_walk using wpAny_loadPart' hl
    refine wpAny_ite_false (decide_eq_false (by rw [c0]; exact Bool.false_ne_true)) ?_
    wp_walk using wpAny_loadPart' hl
    exact ⟨_, rfl, h⟩
section
variable {X : Cx}
theorem op_repL : OpR X (binaryOp .Mult) (fun x y H Q => ∃ a xs k, x = V.ref a ∧ y = V.int k ∧ SqL X.K H a xs ∧ 0 ≤ k ∧ k ≤ 1000 ∧ xs.length * k.toNat ≤ 1000000 ∧ ∀ p, H p = none → Q (.ref p) (upd H p (.lst (List.replicate k.toNat xs).flatten))) := by
  intro pins s σ H x y v u Q I rx ry h
  obtain ⟨a, xs, k, rfl, rfl, hs, k0, k1, hm, q⟩ := h
  obtain rfl : v = Value.ref a := rx
  obtain ⟨t, rfl⟩ := ry
  obtain ⟨its, rv, ⟨⟨cls, dd, data, sl⟩, n, ho, hc, hdn, hd⟩, hlen⟩ := I.list hs
  have hc1 : cls = Value.type "list" := hc
  have hd1 : data = Data.seq its.toArray n := hd
  subst hc1 hd1
  have hsl := sizeLine_eq
  have hz : its.toArray.size * k.toNat ≤ 1000000 := by rw [List.size_toArray, ← rv.length]; exact hm
  have hfit : ¬(!Builtin.List.listFitsIndex k) = true := by
    rw [fitsIndex_both (by omega) (by omega)]
    exact Bool.false_ne_true
  refine wpAny_binaryOp_repeat_ref (T := "list") (U := "int") (by decide) ⟨_, ho, rfl⟩ (fun s' => typeIs_int s' k t) noFill_list_mul F.fills_int_mul F.slot_int_rmul repeat_list F.slot_int_index.lookup
    (call_meets F.slot_int_rmul (typeIs_int s k t) F.entry_int_rmul (F.args_int_rmul_2 _ _) (q_rmul_int k t a its.toArray n dd sl)
      ⟨ho, rfl, ⟨_, ho, rfl⟩, call_meets F.slot_list_mul ⟨_, ho, rfl⟩ F.entry_list_mul (F.args_list_mul_2 _ _)
        (q_mul_int a its.toArray n dd sl k t hfit (by omega) (by simp only [Builtin.List.listTooLong, decide_eq_true_eq]; omega))
        ⟨ho, ?_⟩⟩)
  have e : List.foldl (fun x1 x2 => x1 ++ x2) #[] (List.replicate (if its.toArray.isEmpty = true then 0 else k.toNat) its.toArray) = (List.replicate k.toNat its).flatten.toArray := by
    rw [listMul_foldl_if]
  rw [e]
  refine ⟨.ref s.heap.objs.size, _, I.laid (t' := s.toks) (o := .lst (List.replicate k.toNat xs).flatten) (fun b o e => Heap.get?_push_of_some _ e) (Nat.le_refl _) ⟨?_, _, 0, rv.rep k.toNat, Heap.get?_push_size _ rfl⟩, rfl, q _ (I.hok.fresh (Nat.le_refl _))⟩
  rw [PyProof.Rows.lm_len_rep_flat, Nat.mul_comm]
  omega
theorem op_repE : OpR X (binaryOp .Mult) (fun x y H Q => ∃ a k, x = V.ref a ∧ y = V.int k ∧ SqT X.K H a [] ∧ 0 ≤ k ∧ k ≤ 1000 ∧ Q (.ref a) H) := by
  intro pins s σ H x y v u Q I rx ry h
  obtain ⟨a, k, rfl, rfl, hT, k0, k1, q⟩ := h
  obtain rfl : v = Value.ref a := rx
  obtain ⟨t, rfl⟩ := ry
  obtain ⟨its, r, ⟨⟨cls, dd, data, sl⟩, ho, hc, n, hd⟩, hs⟩ := I.tuple hT
  simp only at hc hd
  subst hc hd
  cases r
  have c0 : (decide (k < -(2 ^ 63)) || decide (k ≥ 2 ^ 63)) = false := by
    rw [decide_eq_false (by omega), decide_eq_false (by omega)]; rfl
  exact wpAny_binaryOp_repeat_ref (T := "tuple") (U := "int") (by decide) ⟨_, ho, rfl⟩ (fun s' => typeIs_int s' k t) noFill_tuple_mul F.fills_int_mul F.slot_int_rmul repeat_tuple F.slot_int_index.lookup
    (call_meets F.slot_int_rmul (typeIs_int s k t) F.entry_int_rmul (F.args_int_rmul_2 _ _) (int_rmul_tuple k t a #[] n dd sl)
      ⟨ho, rfl, ⟨_, ho, rfl⟩, call_meets F.slot_tuple_mul ⟨_, ho, rfl⟩ F.entry_tuple_mul (F.args_tuple_mul_2 _ _) (q_tup_empty a n dd sl k t c0) ⟨ho, ⟨.ref a, H, I, rfl, q⟩⟩⟩)
def gRepL : G2 := fun S dx dy => match vw S dx, dy with
  | .lst xs, .int k => if 0 ≤ k ∧ k ≤ 1000 ∧ xs.length * k.toNat ≤ 1000000 then some (.lst (List.replicate k.toNat xs).flatten) else none
  | _, _ => none
def gRepT : G2 := fun S dx dy => match vw S dx, dy with
  | .tup (x :: xs), .int k => if 2 ≤ k ∧ k ≤ 1000 ∧ (x :: xs).length ≤ 1000 then some (.tup (List.replicate k.toNat (x :: xs)).flatten) else none
  | _, _ => none
def gRepE : G2 := fun S dx dy => match vw S dx, dy with
  | .tup [], .int k => if 0 ≤ k ∧ k ≤ 1000 then some (.tup []) else none
  | _, _ => none
theorem opl_repL : OpL X (binaryOp .Mult) gRepL := .of op_repL fun H m S x y dx dy d q rx ry e => by
  unfold gRepL at e
  split at e
  · rename_i xs k e1
    split at e
    · rename_i hz
      cases e
      obtain ⟨a, vs, rfl, h1, r⟩ := vw_lst q rx e1
      cases ry
      exact ⟨a, vs, k, rfl, rfl, h1, hz.1, hz.2.1, by rw [r.length]; exact hz.2.2, fun p hp => qv_new q hp (vr_newLst q hp (r.rep _))⟩
    · cases e
  · cases e
theorem opl_repT : OpL X (binaryOp .Mult) gRepT := .of op_repT fun H m S x y dx dy d q rx ry e => by
  unfold gRepT at e
  split at e
  · rename_i z xs k e1
    split at e
    · rename_i hz
      cases e
      obtain ⟨a, vs, rfl, h1, r⟩ := vw_tup rx e1
      cases ry
      have hl := r.length
      refine ⟨a, k, vs, rfl, rfl, SqT.of h1, fun z => ?_, hz.1, hz.2.1, by rw [hl]; exact hz.2.2, fun p hp => qv_new q hp (vr_newTup q hp (r.rep _))⟩
      rw [z] at hl
      cases hl
    · cases e
  · cases e
theorem opl_repE : OpL X (binaryOp .Mult) gRepE := .of op_repE fun H m S x y dx dy d q rx ry e => by
  unfold gRepE at e
  split at e
  · rename_i k e1
    split at e
    · rename_i hz
      cases e
      obtain ⟨a, vs, rfl, h1, r⟩ := vw_tup rx e1
      cases ry
      cases r
      exact ⟨a, k, rfl, rfl, SqT.of h1, hz.1, hz.2, qv_same q (.tup h1 .nil)⟩
    · cases e
  · cases e
/-- a list, a tuple, a number: times a number -/
def gMulX : G2 := fun S x y => ((gMulI S x y).or (gRepL S x y)).or ((gRepT S x y).or (gRepE S x y))
theorem opl_mulX : OpL X (binaryOp .Mult) gMulX := (opl_mulI.or opl_repL).or (opl_repT.or opl_repE)
end
end MP

/-! a tuple backwards -/
namespace MP
open PySem PySem.Spec PyProof.Rows L2 HT
section
variable {prog : Program} {w : World} {A : Around} {E : Value → Shared → Prop} {s : Shared}
end
def gRevT (S : Sto) (d : D) : Option D := match vw S d with
  | .tup xs => some (.tup xs.reverse)
  | _ => none
section
variable {X : Cx} {e b : Expr} {le lb : LE} {k : Nat} {p1 p2 p3 pos : Pos}
end
end MP

/-! list(a text): its signs -/
namespace MP
open PySem PySem.Spec PyProof.Rows L2
section
variable {prog : Program} {w : World} {A : Around} {E : Value → Shared → Prop} {s : Shared}
/-- the signs of a text, one by one -/
def sgsD (x : Str) : List D := x.cps.toList.map fun c => D.str ⟨#[c]⟩
end
/-- list(a text), put into the store -/
def lListS (t : LA) : LE := fun ρ S => (t ρ S).bind fun ds S1 => match ds with
  | [.str x] => if x.length ≤ 1000 then .ok (.ref S1.length) (S1 ++ [.lst (sgsD x)]) else .bad
  | _ => .bad
end MP

/-! i not in range(a, b) -/
namespace MP
open PySem PySem.Spec PyProof.Rows L2
section
variable {X : Cx}
def lNotRng (le : LE) (t : LA) : LE := fun ρ S => (le ρ S).bind fun x S1 => (t ρ S1).bind fun ds S2 => match x, ds with
  | .int i, [.int a, .int b] => .ok (.bl (!decide (a ≤ i ∧ i < b))) S2
  | _, _ => .bad
end
end MP

/-! {text: text}, its repr -/
namespace MP
open PySem PySem.Spec PyProof.Rows L2
section
variable {X : Cx}
theorem vdk1 {K : PySem.W.Frag} {m : List Addr} {H : Hp} {vs : List (Key × V)} {d1 d2 : D} (r : VDk K m H vs [(d1, d2)]) : ∃ k' v', vs = [(k', v')] ∧ keyD k' = d1 ∧ VR K m H v' d2 := by
  generalize e : [(d1, d2)] = ds at r
  cases r with
  | nil => cases e
  | @cons k v d vs ds h r =>
    injection e with e1 e2
    injection e1 with a b
    subst e2
    cases r
    exact ⟨k, v, rfl, a.symm, b ▸ h⟩
def gReprK1 : GC := fun _ ds => match ds with
  | [.dct false [(.str k, .str v)]] => if (PyData.dict [(.str k, .str v)]).shown.length ≤ sizeLine then some (.str (PyData.dict [(.str k, .str v)]).shown) else none
  | _ => none
theorem cl_reprK1 (hg : X.A.guards = some []) (hu : X.A.units + 64 < cLine) : CallL X (.builtin "repr") gReprK1 := ⟨fun pins s σ H m S xs ds d us I q r rv e => by
  unfold gReprK1 at e
  split at e
  · rename_i k v
    split at e
    · rename_i hz
      cases e
      obtain ⟨w, rfl, rw'⟩ := r.one
      cases rw' with
      | @dct a vs _ n h rr =>
        obtain ⟨k', v', rfl, ek, rv'⟩ := vdk1 rr
        cases k' with
        | inl i => cases ek
        | inr k2 =>
          cases ek
          cases rv'
          obtain ⟨_, hsys, vs2, rk, o, es, ep, h1, h2, h3, h4, h5, _⟩ := (show ObjOk X.prog X.w H s.heap a (.dK [(.inr k, .str v)]) from I.hok a _ h)
          cases rk with
          | cons z rk =>
            cases rk
            obtain ⟨z1, z2⟩ := z
            obtain ⟨l⟩ := es
            cases h5 with
            | @cons e0 kv es0 kvs0 g1 g2 g3 =>
              cases g3
              obtain ⟨tv, etv⟩ := z2
              dsimp only at z1
              rw [← z1] at g1
              obtain ⟨tk, etk⟩ := Value.isStrOf_shape (show Value.isStrOf k e0.key = true from g1)
              rw [Vals.ref1 rv]
              have hT : s.TypeIs (.ref a) "dict" := ⟨o, h1, h2.1⟩
              have hk : (reprText k).length ≤ sizeLine ∧ (reprText v).length ≤ sizeLine := by
                have hd : (reprText k ++ ": " ++ reprText v).length ≤ sizeLine := Nat.le_trans (dictText_mem_le (ps := [reprText k ++ ": " ++ reprText v]) (by simp)) hz
                have hl : ∀ x y : Str, (x ++ y).length = x.length + y.length := fun x y => by
                  show (x.cps ++ y.cps).size = _
                  rw [Array.size_append]; rfl
                rw [hl, hl] at hd
                omega
              have hE : ReprEntriesK X.prog X.w [] s.heap 1 [e0] [reprText k ++ ": " ++ reprText v] := .cons (by rw [etk]; exact .of_is (ReprIs.str k tk hk.1) _ _ _) (by rw [g2, etv]; exact .of_is (ReprIs.str v tv hk.2) _ _ _) .nil
              refine call_repr_slot (by omega) hT F.slot_dict_repr (call_dict_reprK (as := []) h1 h2.1 h3 hsys (by simp) hE hg (fun b hb => Clear.nil b) (by show X.A.units + 1 + 2 < cLine; omega) (fun _ _ e => e) (fun h' u tk hk => ⟨_, _, rfl, ?_⟩) ?_)
              · exact ⟨.str _, H, m, I.kept (t' := tk) hk, ⟨u, rfl⟩, Ext.refl, q, .str _⟩
              · exact hz
    · cases e
  · cases e⟩
end
end MP

/-! isinstance of any datum: text, tuple -/
namespace MP
open PySem PySem.Spec PyProof.Rows L2
def tabStrA : Tab
  | .str => some true
  | .obj _ => none
  | _ => some false
theorem isi_strA {K : PySem.W.Frag} : IsiOk K (.type "str") tabStrA := ⟨fun t b h => by
  cases t with
  | obj C => cases h
  | _ => first
    | (cases h; exact ⟨kit_ty (by decide +kernel), fun C z => nomatch z⟩)
    | skip⟩
def tabTupA : Tab
  | .tup => some true
  | .obj _ => none
  | _ => some false
end MP

/-! sets of tuples of numbers and texts: the search, an insertion (HandS.TupSets has them for tuples of ints) -/
namespace MP
open PySem PySem.Spec PyProof.Rows L2
/-- the hash of such a tuple -/
abbrev hT (P : Program) (w : World) (k : List Key) : Int := tupleKeyHash (mixKind P w) k
abbrev TuK (P : Program) (w : World) (h : Heap) (k : List Key) (a : Addr) : Prop := IsTupleKey (mixKind P w) h k a
/-- the probe behind c steps -/
abbrev stp (t : SetTable) (h : Int) (c : Nat) : SetTable.Probe := nth t.mask (t.probeStart h) c
theorem stp_dummy (t : SetTable) (h : Int) (c : Nat) : (stp t h c).dummy = none := by
  have key : ∀ (n : Nat) (p : SetTable.Probe), p.dummy = none → (nth t.mask p n).dummy = none := fun n => by
    induction n with
    | zero => exact fun p q => q
    | succ n ih =>
      refine fun p q => ih (adv t.mask p) ?_
      unfold adv
      split
      · exact q
      · exact q
  exact key c _ rfl
theorem stp_add (t : SetTable) (h : Int) (c q : Nat) : nth t.mask (stp t h c) q = stp t h (c + q) := (nth_add t.mask c (t.probeStart h) q).symm
def entT (P : Program) (w : World) (p : Addr × List Key) : Int × Value := (hT P w p.2, .ref p.1)
/-- at a: a set of the tuples L, with a table that can be walked -/
structure StT (P : Program) (w : World) (h : Heap) (a : Addr) (L : List (Addr × List Key)) (es : Array (Int × Value)) (ep : Nat) (t : SetTable) : Prop where
  obj : ∃ o, h.get? a = some o ∧ o.ExactSet ∧ o.data = .set es ep t
  ent : es.toList = L.map (entT P w)
  tab : TabOk t (L.map fun p => hT P w p.2)
  once : (L.map (·.2)).Nodup
  keys : ∀ p ∈ L, TuK P w h p.2 p.1
  led : w.params.followText "set-order" = true ∨ t.led = true
  room : L.length * 5 < t.mask * 3
  few : L.length < 64
section
variable {P : Program} {w : World} {A : Around} {E : Value → Shared → Prop} {s : Shared} {a : Addr} {L : List (Addr × List Key)} {es : Array (Int × Value)} {ep : Nat} {t : SetTable}
theorem item_scan {k : List Key} {vs : List Value} (h : ItemsAre (mixKind P w) k vs) : ∀ v ∈ vs, v.scannable = true := by
  induction h with
  | nil => exact fun v hv => nomatch hv
  | @cons k0 v' ks vs h1 _ ih =>
    intro v hv
    rcases List.mem_cons.mp hv with rfl | hv
    · rcases keyIs_shape h1 with ⟨i, t, _, rfl⟩ | ⟨x, t, _, rfl⟩ <;> rfl
    · exact ih v hv
theorem class_scan {v : Value} (h : v.scannable = true) (n : Nat) : ofAClassStatement n v = pure false := by
  cases v with
  | ref _ => cases h
  | _ => cases n <;> rfl
theorem class_tuK {k : List Key} {b : Addr} {Q : Bool → Shared → Prop} (hk : TuK P w s.heap k b) (q : Q false s) : wpAny (model P w) A (ofAClassStatement 8 (.ref b)) Q E s := by
  have ty := hk.typeIs
  obtain ⟨o, its, n, ho, _, hd, hi⟩ := hk
  unfold ofAClassStatement
  refine wpAny_bind (wpAny_typeOf ty ?_)
  dsimp only
  simp only [show (("tuple" : String) == "tuple") = true by decide, if_true, Bool.not_true, Bool.false_eq_true, if_false]
  try refine wpAny_bind (wpAny_pure ?_)
  try simp only [Bool.not_true, Bool.false_eq_true, if_false]
  show wpAny _ _ (seqItems? (.ref b) >>= _) _ _ s
  refine wpAny_bind (wpAny_seqItems ho hd ?_)
  dsimp only
  refine wpAny_bind ?_
  show wpAny _ _ (forIn its _ _) _ _ s
  rw [← Array.forIn_toList]
  refine wpAny_forIn_list _ (fun rest r s1 => (∀ v ∈ rest, v.scannable = true) ∧ r.1 = none ∧ s1 = s) _ ?_ ?_ _ _ ⟨item_scan hi, rfl, rfl⟩
  · rintro v rest r s1 ⟨hall, hr, rfl⟩
    rw [class_scan (hall v List.mem_cons_self)]
    refine wpAny_bind (wpAny_pure ?_)
    simp only [Bool.false_eq_true, if_false]
    exact wpAny_pure ⟨fun u hu => hall u (List.mem_cons_of_mem _ hu), rfl, rfl⟩
  · rintro ⟨r1, r2⟩ s1 ⟨_, hr, rfl⟩
    simp only at hr
    subst hr
    exact wpAny_pure q
/-- a search shows nothing of the table -/
theorem unseen {k : List Key} {b : Addr} {Q : Bool → Shared → Prop} (hk : TuK P w s.heap k b) {ys : List Value} (hy : ∀ y ∈ ys, ∃ j c, TuK P w s.heap j c ∧ y = .ref c) (q : Q false s) :
    wpAny (model P w) A (searchCouldBeSeen (.ref b) ys) Q E s := by
  unfold searchCouldBeSeen
  refine wpAny_bind ?_
  refine wpAny_forIn_list _ (fun rest r s1 => (∀ y ∈ rest, ∃ j c, TuK P w s1.heap j c ∧ y = Value.ref c) ∧ r.1 = none ∧ s1 = s) _ ?_ ?_ _ _ ⟨hy, rfl, rfl⟩
  · rintro v rest r s1 ⟨hall, hr, rfl⟩
    obtain ⟨j, c, hc, rfl⟩ := hall v List.mem_cons_self
    have nx := fun u hu => hall u (List.mem_cons_of_mem _ hu)
    dsimp only
    by_cases hv : (b == c || (carriedByValue (.ref b) && carriedByValue (.ref c))) = true
    · exact wp_if_pos hv (wpAny_pure ⟨nx, rfl, rfl⟩)
    · refine wp_if_neg hv ?_
      refine wpAny_bind (wpAny_eqIsQuiet_tuple hk ?_)
      simp only [Bool.not_true, Bool.false_eq_true, if_false]
      refine wpAny_bind (wpAny_eqIsQuiet_tuple hc ?_)
      simp only [Bool.not_true, Bool.false_eq_true, if_false]
      refine wpAny_bind (class_tuK hk ?_)
      simp only [Bool.false_eq_true, if_false]
      refine wpAny_bind (class_tuK hc ?_)
      simp only [Bool.false_eq_true, if_false]
      exact wpAny_pure ⟨nx, rfl, rfl⟩
  · rintro ⟨r1, r2⟩ s1 ⟨_, hr, rfl⟩
    simp only at hr
    subst hr
    exact wpAny_pure q
theorem StT.size (R : StT P w s.heap a L es ep t) : es.size = L.length := by
  have q := congrArg List.length R.ent
  simpa using q
theorem StT.psize (R : StT P w s.heap a L es ep t) : t.place.toList.length = L.length := by
  have q := R.tab.sz
  rw [List.length_map] at q
  rw [Array.length_toList, q]
theorem StT.fits (R : StT P w s.heap a L es ep t) : t.fits es.size = true := by
  have q1 := R.psize
  have q2 := R.size
  have q3 := R.room
  rw [Array.length_toList] at q1
  unfold SetTable.fits SetTable.fill
  rw [R.tab.dm, Bool.and_eq_true, beq_iff_eq, decide_eq_true_eq]
  show t.place.size = es.size ∧ t.place.size + 0 ≤ t.mask
  omega
theorem StT.at_ (R : StT P w s.heap a L es ep t) {i : Nat} {p : Addr × List Key} (h : L[i]? = some p) : es[i]? = some (entT P w p) := by
  rw [← Array.getElem?_toList, R.ent, List.getElem?_map, h]
  rfl
theorem StT.sound (R : StT P w s.heap a L es ep t) : ¬ t.gaveWay = true := by
  unfold SetTable.gaveWay
  rw [mask_odd R.tab.mok]
  decide
/-- the search for k from the c-th step on; K: the first empty place on the way -/
theorem StT.search (R : StT P w s.heap a L es ep t) {x : Addr} {k : List Key} (hx : TuK P w s.heap k x) (hu : A.units < cLine) {K : Nat} (big : K < 10 * SetTable.turns t.mask) (free : way t.mask (hT P w k) K ∉ t.place.toList)
    (taken : ∀ c, c < K → way t.mask (hT P w k) c ∈ t.place.toList) {Q : SetFound → Shared → Prop} (yes : k ∈ L.map (·.2) → Q (.there none) s) (no : k ∉ L.map (·.2) → Q (.free (way t.mask (hT P w k) K) false) s) :
    ∀ (f c : Nat) (stand : Option SetTable.Probe), c ≤ K → K - c < f → stand.getD (t.probeStart (hT P w k)) = stp t (hT P w k) c →
      (∀ (i : Nat) (p : Addr × List Key), L[i]? = some p → p.2 = k → ∃ d, c ≤ d ∧ d < K ∧ t.place.toList[i]? = some (way t.mask (hT P w k) d)) → wpAny (model P w) A (setSearchFrom a (.ref x) (hT P w k) true f stand) Q E s := by
  intro f
  induction f with
  | zero => exact fun c stand _ z => absurd z (Nat.not_lt_zero _)
  | succ f ih =>
    intro c stand hc hf hst left
    obtain ⟨o, ho, hex, hd⟩ := R.obj
    rw [setSearchFrom_succ]
    refine wpAny_bind (wpAny_setState_of ho hd R.fits ?_)
    dsimp only
    refine wp_if_neg R.sound ?_
    try refine wpAny_bind (wpAny_pure ?_)
    have jj : ∀ q, (nth t.mask (stp t (hT P w k) c) q).j = way t.mask (hT P w k) (c + q) := fun q => congrArg SetTable.Probe.j (stp_add t (hT P w k) c q)
    have eK : c + (K - c) = K := by omega
    have hh : ∀ (i : Nat) p, L[i]? = some p → (es[i]?.map (·.1)).getD 0 = hT P w p.2 := fun i p hp => by rw [R.at_ hp]; rfl
    rw [hst]
    rcases go_spec t R.tab.ris R.tab.dm (fun i => (es[i]?.map (·.1)).getD 0) (hT P w k) (10 * SetTable.turns t.mask) (K - c) (stp t (hT P w k) c) (stp_dummy _ _ _) (by omega) (fun q hq => by rw [jj]; exact taken _ (by omega)) (by rw [jj, eK]; exact free) with ⟨q, i, hq, hi, he, before, pr⟩ | ⟨before, pr⟩
    · rw [jj] at hi pr
      rw [stp_add] at pr
      rw [show t.probe (fun i => (es[i]?.map (·.1)).getD 0) (hT P w k) (stp t (hT P w k) c) = some (.candidate (way t.mask (hT P w k) (c + q)) i (stp t (hT P w k) (c + (q + 1)))) from pr]
      dsimp only
      have il : i < L.length := by
        have z := (List.getElem?_eq_some_iff.mp hi).1
        have y := R.psize
        omega
      obtain ⟨p, hp⟩ : ∃ p, L[i]? = some p := ⟨L[i], List.getElem?_eq_getElem il⟩
      have pm : p ∈ L := List.mem_of_getElem? hp
      have live : t.slot (way t.mask (hT P w k) (c + q)) = .live i := slot_live R.tab.ris hi
      have rest : wpAny (model P w) A (searchRest a (.ref x) (hT P w k) true f es t (way t.mask (hT P w k) (c + q)) i (stp t (hT P w k) (c + (q + 1)))) Q E s := by
        unfold searchRest
        rw [R.at_ hp]
        dsimp only [entT]
        refine wpAny_bind (wpAny_holding (wpAny_eqBool_tuple hu (R.keys p pm) hx ?_))
        refine wpAny_bind (wpAny_setState_of ho hd R.fits ?_)
        dsimp only
        by_cases same : p.2 = k
        · exact wp_if_pos (by simp [same]) (wpAny_pure (yes (List.mem_map.mpr ⟨p, pm, same⟩)))
        · refine wp_if_neg (by simp [same]) ?_
          try refine wpAny_bind (wpAny_pure ?_)
          rw [sameMem]
          dsimp only
          simp only [if_true, live, R.at_ hp, entT]
          refine wpAny_bind (wpAny_isSame_ref_self (wpAny_bind (wpAny_pure ?_)))
          simp only [if_true]
          refine wp_if_neg (by simp [same]) ?_
          refine ih (c + (q + 1)) _ (by omega) (by omega) rfl fun i0 p0 h0 e0 => ?_
          obtain ⟨d, d1, d2, d3⟩ := left i0 p0 h0 e0
          refine ⟨d, ?_, d2, d3⟩
          by_cases z1 : d < c + q
          · refine absurd ((hh i0 p0 h0).trans (congrArg (hT P w) e0)) (before (d - c) i0 (by omega) ?_)
            rw [jj, show c + (d - c) = d by omega]
            exact d3
          · by_cases z2 : d = c + q
            · exfalso
              rw [z2] at d3
              have y := slot_live R.tab.ris d3
              rw [live] at y
              injection y with y
              rw [← y, hp] at h0
              cases h0
              exact same e0
            · omega
      by_cases hl : t.led = true
      · refine wp_if_neg (by simp [hl]) ?_
        try refine wpAny_bind (wpAny_pure ?_)
        exact rest
      · refine wp_if_pos (by simp [hl]) (wpAny_bind (unseen hx (fun y hy => ?_) ?_))
        · obtain ⟨e, he1, rfl⟩ := List.mem_map.mp hy
          have he2 : e ∈ es.toList := by
            have : e ∈ es ∧ e.1 = hT P w k := by simpa using he1
            simpa using this.1
          rw [R.ent] at he2
          obtain ⟨p2, hp2, rfl⟩ := List.mem_map.mp he2
          exact ⟨p2.2, p2.1, R.keys p2 hp2, rfl⟩
        · refine wp_if_neg (by decide) ?_
          try refine wpAny_bind (wpAny_pure ?_)
          exact rest
    · rw [jj, eK] at pr
      rw [show t.probe (fun i => (es[i]?.map (·.1)).getD 0) (hT P w k) (stp t (hT P w k) c) = some (.empty (way t.mask (hT P w k) K) none) from pr]
      dsimp only
      refine wpAny_pure (no fun hm => ?_)
      obtain ⟨p0, m0, e0⟩ := List.mem_map.mp hm
      obtain ⟨i0, h0⟩ := List.mem_iff_getElem?.mp m0
      obtain ⟨d, d1, d2, d3⟩ := left i0 p0 h0 e0
      refine before (d - c) i0 (by omega) ?_ ((hh i0 p0 h0).trans (congrArg (hT P w) e0))
      rw [jj, show c + (d - c) = d by omega]
      exact d3
/-- the search that an insertion makes -/
theorem StT.find (R : StT P w s.heap a L es ep t) {x : Addr} {k : List Key} (hx : TuK P w s.heap k x) (hu : A.units < cLine) {Q : SetFound → Shared → Prop} (yes : k ∈ L.map (·.2) → Q (.there none) s)
    (no : ∀ K, k ∉ L.map (·.2) → way t.mask (hT P w k) K ∉ t.place.toList → (∀ c, c < K → way t.mask (hT P w k) c ∈ t.place.toList) → Q (.free (way t.mask (hT P w k) K) false) s) :
    wpAny (model P w) A (setSearch a (.ref x) (hT P w k) true) Q E s := by
  have q := R.room
  obtain ⟨K, k1, k2, k3⟩ := R.tab.first (by rw [List.length_map]; omega) (hT P w k)
  have small : 10 * SetTable.turns t.mask ≤ 1420 := by
    unfold SetTable.turns
    rcases R.tab.mok with e | e | e <;> omega
  unfold setSearch
  refine R.search hx hu k1 k2 k3 yes (fun z => no K z k2 k3) 100000 0 none (Nat.zero_le _) (by omega) rfl fun i p hp e => ?_
  have hi : (L.map fun p => hT P w p.2)[i]? = some (hT P w k) := by rw [List.getElem?_map, hp, ← e]; rfl
  have il : i < t.place.toList.length := by
    rw [R.psize]
    exact (List.getElem?_eq_some_iff.mp hp).1
  obtain ⟨d, d1, d2⟩ := R.tab.before k2 hi (List.getElem?_eq_getElem il)
  exact ⟨d, Nat.zero_le _, d1, by rw [List.getElem?_eq_getElem il, d2]⟩
end
end MP

/-! sets of tuples of numbers and texts: an insertion -/
namespace MP
open PySem PySem.Spec PyProof.Rows L2
section
variable {P : Program} {w : World} {A : Around} {E : Value → Shared → Prop} {s : Shared} {a : Addr} {L : List (Addr × List Key)} {es : Array (Int × Value)} {ep : Nat} {t : SetTable}
theorem TuK.but {h h' : Heap} {k : List Key} {b : Addr} {o : Obj} (q : TuK P w h k b) (ho : h.get? a = some o) (hd : o.data = .set es ep t) (sb : Heap.SameBut a h h') : TuK P w h' k b := by
  obtain ⟨o1, its, n, h1, h2, h3, h4⟩ := q
  refine ⟨o1, its, n, (sb.2 b fun z => ?_).trans h1, h2, h3, h4⟩
  rw [z, ho] at h1
  cases h1
  rw [hd] at h3
  cases h3
end
end MP

/-! set(pairs of texts), of a list, of a tuple; sorted and counted -/
namespace MP
open PySem PySem.Spec PyProof.Rows L2
/-- what stands in the set behind the first i pairs -/
structure Met (ks : List (Addr × List Key)) (i : Nat) (L : List (Addr × List Key)) : Prop where
  old : ∀ p ∈ L, p ∈ ks.take i
  new : ∀ p ∈ ks.take i, p.2 ∈ L.map (·.2)
  len : L.length ≤ i
section
variable {P : Program} {w : World} {A : Around} {R : Result → Shared → Prop} {E : Value → Shared → Prop} {s : Shared}
theorem TuK.keep {h h' : Heap} {k : List Key} {b : Addr} (q : TuK P w h k b) (e : ∀ c o, h.get? c = some o → h'.get? c = some o) : TuK P w h' k b := by
  obtain ⟨o, its, n, ho, r⟩ := q
  exact ⟨o, its, n, e b o ho, r⟩
theorem StT.keep {h h' : Heap} {a : Addr} {L : List (Addr × List Key)} {es : Array (Int × Value)} {ep : Nat} {t : SetTable} (q : StT P w h a L es ep t) (ha : ∀ o, h.get? a = some o → h'.get? a = some o) (hk : ∀ p ∈ L, TuK P w h' p.2 p.1) : StT P w h' a L es ep t := by
  obtain ⟨o, ho, r⟩ := q.obj
  exact ⟨⟨o, ha o ho, r⟩, q.ent, q.tab, q.once, hk, q.led, q.room, q.few⟩
end
end MP

namespace MP
open PySem PySem.Spec PyProof.Rows L2
section
variable {P : Program} {w : World} {A : Around} {R : Result → Shared → Prop} {E : Value → Shared → Prop} {s : Shared}
end
end MP

/-! sorted(set(a tuple of pairs of texts)) as an expression -/
namespace MP
open PySem PySem.Spec PyProof.Rows L2
abbrev PS := Str × Str
def pdD (p : PS) : D := .tup [.str p.1, .str p.2]
def psOf : List D → Option (List PS)
  | [] => some []
  | .tup [.str a, .str b] :: r => (psOf r).map fun q => (a, b) :: q
  | _ => none
def kkP (p : PS) : List Key := [.inr p.1, .inr p.2]
def nubP : List PS → List PS
  | [] => []
  | x :: r => if x ∈ r then nubP r else x :: nubP r
/-- p not behind q -/
def leP (p q : PS) : Bool := !ltP q.1 q.2 p.1 p.2
def srtP (ps : List PS) : List PS := (nubP ps).mergeSort leP
theorem lt_tri {a b : Str} (h : a ≠ b) : a.cps.toList < b.cps.toList ∨ b.cps.toList < a.cps.toList := by
  by_cases q : a.cps.toList < b.cps.toList
  · exact .inl q
  · refine .inr ?_
    rcases List.le_total a.cps.toList b.cps.toList with z | z
    · exact absurd (Str.ext' (Array.toList_inj.mp (List.le_antisymm z (List.not_lt.mp q)))) h
    · refine Classical.byContradiction fun y => ?_
      exact h (Str.ext' (Array.toList_inj.mp (List.le_antisymm (List.not_lt.mp y) z)))
/-- q before p, in words -/
theorem ltP_iff {a b c d : Str} : ltP a b c d = true ↔ (a ≠ c ∧ a.cps.toList < c.cps.toList) ∨ (a = c ∧ b ≠ d ∧ b.cps.toList < d.cps.toList) := by
  unfold ltP
  by_cases h1 : a = c
  · rw [if_pos h1]
    by_cases h2 : b = d
    · rw [if_pos h2]
      simp [h1, h2]
    · rw [if_neg h2, decide_eq_true_eq]
      simp [h1, h2]
  · rw [if_neg h1, decide_eq_true_eq]
    simp [h1]
theorem ltP_tri {p q : PS} (h : p ≠ q) : ltP p.1 p.2 q.1 q.2 = true ∨ ltP q.1 q.2 p.1 p.2 = true := by
  by_cases h1 : p.1 = q.1
  · have h2 : p.2 ≠ q.2 := fun z => h (Prod.ext h1 z)
    rcases lt_tri h2 with z | z
    · exact .inl (ltP_iff.mpr (.inr ⟨h1, h2, z⟩))
    · exact .inr (ltP_iff.mpr (.inr ⟨h1.symm, Ne.symm h2, z⟩))
  · rcases lt_tri h1 with z | z
    · exact .inl (ltP_iff.mpr (.inl ⟨h1, z⟩))
    · exact .inr (ltP_iff.mpr (.inl ⟨Ne.symm h1, z⟩))
theorem ltP_asymm {p q : PS} (h : ltP p.1 p.2 q.1 q.2 = true) : ltP q.1 q.2 p.1 p.2 = false := by
  cases z : ltP q.1 q.2 p.1 p.2 with
  | false => rfl
  | true =>
    rcases ltP_iff.mp h with ⟨a1, a2⟩ | ⟨a1, a2, a3⟩
    · rcases ltP_iff.mp z with ⟨b1, b2⟩ | ⟨b1, _⟩
      · exact absurd b2 (List.lt_asymm a2)
      · exact absurd b1.symm a1
    · rcases ltP_iff.mp z with ⟨b1, _⟩ | ⟨b1, b2, b3⟩
      · exact absurd a1.symm b1
      · exact absurd b3 (List.lt_asymm a3)
theorem ltP_trans {p q r : PS} (h : ltP p.1 p.2 q.1 q.2 = true) (h' : ltP q.1 q.2 r.1 r.2 = true) : ltP p.1 p.2 r.1 r.2 = true := by
  rcases ltP_iff.mp h with ⟨a1, a2⟩ | ⟨a1, a2, a3⟩ <;> rcases ltP_iff.mp h' with ⟨b1, b2⟩ | ⟨b1, b2, b3⟩
  · have z := List.lt_trans a2 b2
    exact ltP_iff.mpr (.inl ⟨fun e => by rw [e] at z; exact List.lt_irrefl _ z, z⟩)
  · exact ltP_iff.mpr (.inl ⟨fun e => a1 (e.trans b1.symm), b1 ▸ a2⟩)
  · exact ltP_iff.mpr (.inl ⟨fun e => b1 (a1.symm.trans e), a1 ▸ b2⟩)
  · have z := List.lt_trans a3 b3
    exact ltP_iff.mpr (.inr ⟨a1.trans b1, fun e => by rw [e] at z; exact List.lt_irrefl _ z, z⟩)
theorem leP_iff {p q : PS} : leP p q = true ↔ p = q ∨ ltP p.1 p.2 q.1 q.2 = true := by
  unfold leP
  rw [Bool.not_eq_true']
  constructor
  · intro h
    by_cases e : p = q
    · exact .inl e
    · rcases ltP_tri e with z | z
      · exact .inr z
      · rw [h] at z; cases z
  · rintro (rfl | h)
    · cases z : ltP p.1 p.2 p.1 p.2 with
      | false => rfl
      | true =>
        have := ltP_asymm z
        rw [z] at this
        cases this
    · exact ltP_asymm h
theorem leP_trans (p q r : PS) (h : leP p q = true) (h' : leP q r = true) : leP p r = true := by
  rcases leP_iff.mp h with rfl | h
  · exact h'
  · rcases leP_iff.mp h' with rfl | h'
    · exact leP_iff.mpr (.inr h)
    · exact leP_iff.mpr (.inr (ltP_trans h h'))
theorem leP_total (p q : PS) : (leP p q || leP q p) = true := by
  rw [Bool.or_eq_true]
  by_cases e : p = q
  · exact .inl (leP_iff.mpr (.inl e))
  · exact (ltP_tri e).imp (fun z => leP_iff.mpr (.inr z)) fun z => leP_iff.mpr (.inr z)
theorem leP_anti (p q : PS) (h : leP p q = true) (h' : leP q p = true) : p = q := by
  rcases leP_iff.mp h with e | z
  · exact e
  · rcases leP_iff.mp h' with e | y
    · exact e.symm
    · have := ltP_asymm z
      rw [y] at this
      cases this
def encP (p : PS) : PyData := .tuple [.str p.1, .str p.2]
theorem le_encP : PySem.W.dataLe false encP = leP := by
  funext p q
  show (!PySem.W.dataLt (.tuple [.str q.1, .str q.2]) (.tuple [.str p.1, .str p.2])) = leP p q
  rw [PySem.W.dataLt_pair (by simp [PySem.W.alike]) (by simp [PySem.W.alike]), PySem.W.dataLt_str, PySem.W.dataLt_str]
  unfold leP ltP
  simp only [PyData.eqv, beq_iff_eq]
section
variable {K : PySem.W.Frag} {m : List Addr} {H : Hp}
end
/-- sorted(set(a tuple of pairs of texts)) -/
def gSortSetP : GC := fun _ ds => match ds with
  | [.tup xs] => match psOf xs with
    | some ps => if ps.length < 64 then some (.lst ((srtP ps).map pdD)) else none
    | none => none
  | _ => none
end MP

/-! upper, {text: number}, isinstance of numbers and truths of any datum, is not True -/
namespace MP
open PySem PySem.Spec PyProof.Rows L2
section
variable {X : Cx}
def gNotB : G2 := fun _ x y => match x, y with
  | .bl a, .bl b => some (.bl (!decide (a = b)))
  | _, _ => none
def lUpper (lo : LE) : LE := fun ρ S => (lo ρ S).bind fun d S1 => match d with
  | .str z => if z.length ≤ 100000 then .ok (.str (Txt.upper z)) S1 else .bad
  | _ => .bad
end
def tabIntA : Tab
  | .int => some true
  | .bl => some true
  | .obj _ => none
  | _ => some false
def tabBlA : Tab
  | .bl => some true
  | .obj _ => none
  | _ => some false
end MP

/-! tuples of no dict of their own; dict(pairs) of a list, of such a tuple -/
namespace MP
open PySem PySem.Spec PyProof.Rows L2
section
variable {X : Cx}
/-- tuple(a list) -/
def gFTuple : GC := fun S ds => match ds with
  | [d] => match vw S d with
    | .lst xs => some (.ftup xs)
    | _ => none
  | _ => none
theorem cl_ftuple : CallL X (.type "tuple") gFTuple := ⟨fun pins s σ H m S xs ds d us I q r rv e => by
  unfold gFTuple at e
  split at e
  · split at e
    · rename_i ys e1
      cases e
      obtain ⟨v, rfl, w⟩ := r.one
      obtain ⟨a, vs, rfl, h1, r1⟩ := vw_lst q w e1
      rw [Vals.ref1 rv]
      obtain ⟨its, rv', pl, hz⟩ := I.list h1
      refine call_tuple_list pl.isList (fun h' hk => ?_) (by rw [List.size_toArray, ← rv'.length]; exact hz)
      have I1 : Inv X pins σ H { s with heap := h', toks := s.toks } := I.kept hk
      have hn : H h'.objs.size = none := I1.hok.fresh (Nat.le_refl _)
      exact ⟨.ref h'.objs.size, upd H h'.objs.size (.frz { cls := .type "tuple", data := .seq its.toArray } (.tup vs)), m, I1.laid (t' := s.toks) (o := .frz { cls := .type "tuple", data := .seq its.toArray } (.tup vs)) (fun b o e => Heap.get?_push_of_some _ e) (Nat.le_refl _) ⟨Heap.get?_push_size _ rfl, hz, its, rv', IsTup.new h' _⟩, rfl, Ext.fresh hn, q.fresh hn, .ftup rfl upd_same (r1.fresh q hn)⟩
    · cases e
  · cases e⟩
/-- () -/
def lTup0 : LE := fun _ S => .ok (.ftup []) S
theorem pel_tup0 {x1 : Nat} {pos : Pos} : PEL X (.Tuple [] x1 pos) lTup0 := by
  refine ⟨fun pins s σ H m ρ S I x r hp => ?_⟩
  have hp' : Hope X σ m H ((aNil ρ S).bind fun ds S1 => R.ok (D.ftup []) S1) := hp
  refine wpAny_Tuple_spliced (run_seqA pal_nil I x r hp' fun ds S1 q1 vs us s1 H1 m1 I1 rv e1 x1 w1 r1 hp1 => ?_)
  cases q1
  cases w1
  cases rv
  refine ⟨Nat.zero_le _, ?_⟩
  have hf : H1 s1.heap.objs.size = none := I1.hok.fresh (Nat.le_refl _)
  exact (vpr_of ⟨.ref s1.heap.objs.size, upd H1 s1.heap.objs.size (.frz { cls := .type "tuple", data := .seq #[] } (.tup [])), m1, I1.laid (t' := s1.toks) (o := .frz { cls := .type "tuple", data := .seq #[] } (.tup [])) (fun b u e => Heap.get?_push_of_some _ e) (Nat.le_refl _) ⟨Heap.get?_push_size _ rfl, Nat.zero_le _, [], .nil, _, Heap.get?_push_size _ rfl, rfl, _, rfl⟩, rfl, Ext.fresh hf, x1.fresh hf, .ftup rfl upd_same .nil⟩).left e1
end
/-! ### pairs -/
def kv1 : D → Option (D × D)
  | .tup [k, v] => (keyOf k).map fun _ => (k, v)
  | _ => none
def kvsOf : List D → Option (List (D × D))
  | [] => some []
  | x :: r => (kv1 x).bind fun p => (kvsOf r).map fun q => p :: q
def keysK (kvs : List (D × D)) : List Key := kvs.filterMap fun q => keyOf q.1
theorem kv1_inv {x : D} {p : D × D} (h : kv1 x = some p) : x = .tup [p.1, p.2] ∧ ∃ key, keyOf p.1 = some key := by
  unfold kv1 at h
  split at h
  · rename_i k v
    cases q : keyOf k with
    | none => rw [q] at h; cases h
    | some key => rw [q] at h; cases h; exact ⟨rfl, key, q⟩
  · cases h
def kv1T : D → Option (D × D)
  | .tup [.tup xs, v] => (keysOf xs).map fun _ => (.tup xs, v)
  | _ => none
def kvsOfT : List D → Option (List (D × D))
  | [] => some []
  | x :: r => (kv1T x).bind fun p => (kvsOfT r).map fun q => p :: q
def keysT (kvs : List (D × D)) : List (List Key) := kvs.filterMap fun q => kOf true q.1
theorem kv1T_inv {x : D} {p : D × D} (h : kv1T x = some p) : ∃ ks : List Key, x = .tup [.tup (ks.map keyD), p.2] ∧ p.1 = .tup (ks.map keyD) := by
  unfold kv1T at h
  split at h
  · rename_i xs v
    cases q : keysOf xs with
    | none => rw [q] at h; cases h
    | some ks => rw [q] at h; cases h; exact ⟨ks, by rw [← keysOf_inv q], by rw [← keysOf_inv q]⟩
  · cases h
theorem mergeK_nd : ∀ (ks acc : List (Key × V)), (acc.map (·.1) ++ ks.map (·.1)).Nodup → mergeK acc ks = acc ++ ks
  | [], acc, _ => by simp [mergeK]
  | k :: ks, acc, h => by
    have hn : (acc.any fun kv => decide (kv.1 = k.1)) = false := by
      rw [List.any_eq_false]
      intro x hx z
      have e := of_decide_eq_true z
      rw [List.map_cons, List.nodup_append] at h
      exact h.2.2 x.1 (List.mem_map_of_mem hx) k.1 List.mem_cons_self e
    have e : putK acc k.1 k.2 = acc ++ [k] := by
      unfold putK
      rw [hn, if_neg Bool.false_ne_true]
    show mergeK (putK acc k.1 k.2) ks = _
    rw [e, mergeK_nd ks (acc ++ [k]) (by simpa [List.append_assoc] using h)]
    simp
theorem merged_nd {κ : Type} [DecidableEq κ] : ∀ (ks acc : List (κ × Value)), (acc.map (·.1) ++ ks.map (·.1)).Nodup → merged acc ks = acc ++ ks
  | [], acc, _ => by simp [merged]
  | k :: ks, acc, h => by
    have hn : (acc.any fun kv => decide (kv.1 = k.1)) = false := by
      rw [List.any_eq_false]
      intro x hx z
      have e := of_decide_eq_true z
      rw [List.map_cons, List.nodup_append] at h
      exact h.2.2 x.1 (List.mem_map_of_mem hx) k.1 List.mem_cons_self e
    have e : stored acc k.1 k.2 = acc ++ [k] := by
      unfold stored
      rw [hn, if_neg Bool.false_ne_true]
    show merged (stored acc k.1 k.2) ks = _
    rw [e, merged_nd ks (acc ++ [k]) (by simpa [List.append_assoc] using h)]
    simp
theorem storedAll_nd {κ : Type} [DecidableEq κ] : ∀ (ks acc : List (κ × Addr × Value)), (acc.map (·.1) ++ ks.map (·.1)).Nodup → storedAllH acc ks = acc ++ ks
  | [], acc, _ => by simp [storedAllH]
  | k :: ks, acc, h => by
    have hn : atKey acc k.1 = none := by
      cases q : atKey acc k.1 with
      | none => rfl
      | some p =>
        exfalso
        unfold atKey at q
        rw [List.map_cons, List.nodup_append] at h
        have hm : k.1 ∈ acc.map (·.1) := by
          cases z : acc.find? (fun x => x.1 = k.1) with
          | none => rw [z] at q; cases q
          | some y =>
            have e := List.find?_some z
            have e' : y.1 = k.1 := by simpa using e
            rw [← e']
            exact List.mem_map_of_mem (List.mem_of_find?_eq_some z)
        exact h.2.2 k.1 hm k.1 List.mem_cons_self rfl
    show storedAllH (storedH acc k.1 k.2.1 k.2.2) ks = _
    rw [storedH_new hn, storedAll_nd ks (acc ++ [(k.1, k.2.1, k.2.2)]) (by simpa [List.append_assoc] using h)]
    simp
theorem paired_right {α β : Type} {F : α → β → Prop} : ∀ {l₁ : List α} {l₂ : List β}, Paired F l₁ l₂ → ∀ y ∈ l₂, ∃ x, F x y
  | _, _, .nil => fun y hy => nomatch hy
  | _, _, .cons h t => fun y hy => by
    rcases List.mem_cons.mp hy with rfl | hy
    · exact ⟨_, h⟩
    · exact paired_right t y hy
theorem paired_keys {α β γ : Type} {F : α × β → α × γ → Prop} : ∀ {l₁ : List (α × β)} {l₂ : List (α × γ)}, Paired F l₁ l₂ → (∀ x y, F x y → x.1 = y.1) → l₂.map (·.1) = l₁.map (·.1)
  | _, _, .nil, _ => rfl
  | _, _, .cons h t, g => by rw [List.map_cons, List.map_cons, g _ _ h, paired_keys t g]
section
variable {K : PySem.W.Frag} {m : List Addr} {H : Hp}
theorem kvs_paired : ∀ {xs : List D} {vs : List V} {kvs : List (D × D)}, VRs K m H vs xs → kvsOf xs = some kvs → ∃ (ps : List Addr) (ks : List (Key × V)), vs = ps.map V.ref ∧ Paired (fun p (kv : Key × V) => H p = some (.tup [kV kv.1, kv.2])) ps ks ∧ VDk K m H ks kvs ∧ ks.map (·.1) = keysK kvs
  | [], _, _, .nil, h => by simp only [kvsOf] at h; cases h; exact ⟨[], [], rfl, .nil, .nil, rfl⟩
  | x :: xs, v :: vs, kvs, .cons hx r, h => by
    simp only [kvsOf] at h
    cases q : kv1 x with
    | none => rw [q] at h; cases h
    | some p =>
      rw [q] at h
      cases q2 : kvsOf xs with
      | none => rw [q2] at h; cases h
      | some kvs' =>
        rw [q2] at h
        cases h
        obtain ⟨rfl, key, hk⟩ := kv1_inv q
        obtain ⟨ps, ks, e1, e2, e3, e4⟩ := kvs_paired r q2
        cases hx with
        | @tup a vs' _ h' r' =>
          obtain ⟨v1, v2, rfl, w1, w2⟩ := r'.two
          have ev := w1.key hk
          subst ev
          have ek := keyOf_inv hk
          refine ⟨a :: ps, (key, v2) :: ks, by rw [e1]; rfl, .cons h' e2, ?_, ?_⟩
          · obtain ⟨p1, p2⟩ := p
            dsimp only at ek w2 ⊢
            subst ek
            exact .cons w2 e3
          · show key :: ks.map (·.1) = keysK (p :: kvs')
            unfold keysK
            rw [List.filterMap_cons_some (f := fun q : D × D => keyOf q.1) (a := p) hk, e4]
            rfl
theorem kvs_pairedT : ∀ {xs : List D} {vs : List V} {kvs : List (D × D)}, VRs K m H vs xs → kvsOfT xs = some kvs → ∃ (ps : List (Addr × Addr)) (ks : List (List Key × V)), vs = ps.map (fun p => V.ref p.1) ∧ Paired (fun p (kv : List Key × V) => H p.1 = some (.tup [.ref p.2, kv.2]) ∧ H p.2 = some (.tup (kv.1.map kV))) ps ks ∧ VDt K m H ks kvs ∧ ks.map (·.1) = keysT kvs
  | [], _, _, .nil, h => by simp only [kvsOfT] at h; cases h; exact ⟨[], [], rfl, .nil, .nil, rfl⟩
  | x :: xs, v :: vs, kvs, .cons hx r, h => by
    simp only [kvsOfT] at h
    cases q : kv1T x with
    | none => rw [q] at h; cases h
    | some p =>
      rw [q] at h
      cases q2 : kvsOfT xs with
      | none => rw [q2] at h; cases h
      | some kvs' =>
        rw [q2] at h
        cases h
        obtain ⟨key, rfl, hk⟩ := kv1T_inv q
        obtain ⟨ps, ks, e1, e2, e3, e4⟩ := kvs_pairedT r q2
        cases hx with
        | @tup a vs' _ h' r' =>
          obtain ⟨v1, v2, rfl, w1, w2⟩ := r'.two
          cases w1 with
          | @tup b us _ hb rb =>
            have ev := rb.keys
            subst ev
            refine ⟨(a, b) :: ps, (key, v2) :: ks, by rw [e1]; rfl, .cons ⟨h', hb⟩ e2, ?_, ?_⟩
            · obtain ⟨p1, p2⟩ := p
              dsimp only at hk w2 ⊢
              subst hk
              exact .cons w2 e3
            · show key :: ks.map (·.1) = keysT (p :: kvs')
              unfold keysT
              rw [List.filterMap_cons_some (f := fun q : D × D => kOf true q.1) (a := p) (show kOf true p.1 = some key by rw [hk]; exact kf2.mpr rfl), e4]
              rfl
end
section
variable {X : Cx}
theorem pairs2 {pins : List (Addr × Obj)} {σ : L2.St} {H : Hp} {s : Shared} (I : Inv X pins σ H s) : ∀ {ps : List Addr} {ks : List (Key × V)}, Paired (fun p (kv : Key × V) => H p = some (.tup [kV kv.1, kv.2])) ps ks →
    ∃ (prs : List (Key × Value)) (pv : List (Value × Value)), KV ks prs ∧ prs.length = ps.length ∧ pv.length = ps.length ∧ ∀ (j : Nat) (u y : Value), pv[j]? = some (u, y) → ∃ (b : Addr) (k : Key), ps[j]? = some b ∧ prs[j]? = some (k, y) ∧ IsTup s.heap b #[u, y] ∧ keyIs k u = true
  | _, _, .nil => ⟨[], [], .nil, rfl, rfl, fun j u y e => by simp at e⟩
  | _, _, .cons (a := p) (b := kv) h t => by
    obtain ⟨prs, pv, r, hl, hl2, hp⟩ := pairs2 I t
    obtain ⟨its, rv, ht, _⟩ := I.tuple (SqT.of h)
    obtain ⟨u, y, ei, ru, ry⟩ := vals2 rv
    subst ei
    refine ⟨(kv.1, y) :: prs, (u, y) :: pv, .cons ⟨rfl, ry⟩ r, by rw [List.length_cons, List.length_cons, hl], by rw [List.length_cons, List.length_cons, hl2], fun j u' y' e => ?_⟩
    cases j with
    | zero =>
      have e' : (u, y) = (u', y') := Option.some.inj e
      cases e'
      exact ⟨p, kv.1, rfl, rfl, ht, kV_is (P := X.prog) (w := X.w) ru⟩
    | succ j =>
      obtain ⟨b, k, e1, e2, e3⟩ := hp j u' y' (by simpa using e)
      exact ⟨b, k, by simpa using e1, by simpa using e2, e3⟩
/-- dict(pairs), the keys numbers and texts, each once -/
def gDictK : GC := fun S ds => match ds with
  | [.lst xs] => (kvsOf xs).bind fun kvs => if (keysK kvs).Nodup ∧ kvs.length ≤ 100000 then some (.dct false kvs) else none
  | [.ftup xs] => (kvsOf xs).bind fun kvs => if (keysK kvs).Nodup ∧ kvs.length ≤ 100000 then some (.dct false kvs) else none
  | _ => none
theorem vdk_len {K : PySem.W.Frag} {m : List Addr} {H : Hp} : ∀ {ks : List (Key × V)} {kvs : List (D × D)}, VDk K m H ks kvs → ks.length = kvs.length
  | _, _, .nil => rfl
  | _, _, .cons _ r => by rw [List.length_cons, List.length_cons, vdk_len r]
theorem vdt_len {K : PySem.W.Frag} {m : List Addr} {H : Hp} : ∀ {ks : List (List Key × V)} {kvs : List (D × D)}, VDt K m H ks kvs → ks.length = kvs.length
  | _, _, .nil => rfl
  | _, _, .cons _ r => by rw [List.length_cons, List.length_cons, vdt_len r]
theorem cl_dictK (hc : X.calm = true) : CallL X (.type "dict") gDictK := ⟨fun pins s σ H m S xs ds d us I q r rv e => by
  unfold gDictK at e
  split at e
  · rename_i ys
    cases q1 : kvsOf ys with
    | none => rw [q1] at e; cases e
    | some kvs =>
      rw [q1] at e
      dsimp only [Option.bind] at e
      split at e
      · rename_i hk
        cases e
        obtain ⟨v, rfl, w⟩ := r.one
        obtain ⟨a, vs, rfl, h1, r1⟩ := vw_lst (S := S) q w rfl
        obtain ⟨ps, ks, rfl, hp, hd, hkeys⟩ := kvs_paired r1 q1
        have hm : mergeK [] ks = ks := by
          have := mergeK_nd ks [] (by rw [hkeys]; exact hk.1)
          simpa using this
        refine thn (call_dictP hc pins s σ H [.ref a] us (QV X.K m H S (.dct false kvs)) I rv ⟨a, ps, ks, rfl, h1, L2.Paired.mapP hp (fun _ _ z => SqT.of z), fun p hn => ?_⟩) fun _ _ z => vp_of z
        rw [hm]
        exact qv_new q hn (.dct (q.nin hn) upd_same (VDk.ext (Ext.fresh hn) q.muts hd))
      · cases e
  · rename_i ys
    cases q1 : kvsOf ys with
    | none => rw [q1] at e; cases e
    | some kvs =>
      rw [q1] at e
      dsimp only [Option.bind] at e
      split at e
      · rename_i hk
        cases e
        obtain ⟨v, rfl, w⟩ := r.one
        cases w with
        | @ftup a vs _ o hdn h1 r1 =>
          obtain ⟨ps, ks, rfl, hp, hd, hkeys⟩ := kvs_paired r1 q1
          rw [Vals.ref1 rv]
          obtain ⟨ho, hz, its, rv', o', ho', hcl, n, hdat⟩ := (show ObjOk X.prog X.w H s.heap a (.frz o (.tup (ps.map V.ref))) from I.hok a _ h1)
          obtain rfl : o' = o := Option.some.inj (ho'.symm.trans ho)
          have ei := refs_at rv'
          subst ei
          obtain ⟨prs, pv, rel, hl, hl2, hpr⟩ := pairs2 I hp
          rw [List.length_map] at hz
          refine PySem.call_dict_pairs (knd := mixKind X.prog X.w) (kvs := prs) (PairArg.tuple a (ps.map Value.ref).toArray (fun j => ps.getD j 0) pv) (I.ok.hd hc) ⟨⟨o', n, ho, hcl, hdn, hdat⟩, by simp [hl2], fun j u y e => ?_⟩ ⟨by rw [hl, hl2], fun j u y e => ?_⟩ (by rw [hl2]; exact hz) fun h' tk hd' k => ?_
          · obtain ⟨b, k, e1, e2, e3, e4⟩ := hpr j u y e
            have eb : ps.getD j 0 = b := by simp [List.getD_eq_getElem?_getD, e1]
            exact ⟨by simp [e1, List.getD_eq_getElem?_getD], .inl (by show s.heap.IsTuple (ps.getD j 0) #[u, y]; rw [eb]; exact e3)⟩
          · obtain ⟨b, k, e1, e2, e3, e4⟩ := hpr j u y e
            exact ⟨k, e2, e4⟩
          · have hn : H s.heap.objs.size = none := I.hok.fresh (Nat.le_refl _)
            have hsys : (s.heap.objs.size == sysModules) = false := beq_eq_false_iff_ne.mpr (Nat.ne_of_gt I.big)
            have hpk : prs.map (·.1) = ks.map (·.1) := paired_keys (F := fun (p : Key × V) (q : Key × Value) => p.1 = q.1 ∧ RelV p.2 q.2) rel fun _ _ z => z.1
            have hm : merged [] prs = prs := by
              have := merged_nd prs [] (by rw [hpk, hkeys]; exact hk.1)
              simpa using this
            rw [hm] at hd'
            have hlen : ks.length ≤ sizeLine := by rw [vdk_len hd]; exact Nat.le_trans hk.2 (by decide)
            exact ⟨.ref s.heap.objs.size, upd H s.heap.objs.size (.dK ks), m, I.laid (t' := tk) (fun b o e => k b o (fun z => nomatch z) e) (Nat.le_refl _) (show ObjOk X.prog X.w _ _ _ (.dK ks) from ⟨hlen, hsys, prs, rel, hd'⟩), rfl, Ext.fresh hn, q.fresh hn, .dct (q.nin hn) upd_same (VDk.ext (Ext.fresh hn) q.muts hd)⟩
      · cases e
  · cases e⟩
theorem pairsT2 {pins : List (Addr × Obj)} {σ : L2.St} {H : Hp} {s : Shared} (I : Inv X pins σ H s) : ∀ {ps : List (Addr × Addr)} {ks : List (List Key × V)}, Paired (fun p (kv : List Key × V) => H p.1 = some (.tup [.ref p.2, kv.2]) ∧ H p.2 = some (.tup (kv.1.map kV))) ps ks →
    ∃ (prs : List (List Key × Addr × Value)) (pv : List (Value × Value)), Paired (fun (p : List Key × V) (q : List Key × Addr × Value) => p.1 = q.1 ∧ H q.2.1 = some (.tup (p.1.map kV)) ∧ RelV p.2 q.2.2) ks prs ∧ prs.length = ps.length ∧ pv.length = ps.length ∧ ∀ (j : Nat) (u y : Value), pv[j]? = some (u, y) → ∃ (b c : Addr) (k : List Key), ps[j]? = some (b, c) ∧ u = .ref c ∧ prs[j]? = some (k, c, y) ∧ IsTup s.heap b #[u, y]
  | _, _, .nil => ⟨[], [], .nil, rfl, rfl, fun j u y e => by simp at e⟩
  | _, _, .cons (a := p) (b := kv) h t => by
    obtain ⟨prs, pv, r, hl, hl2, hp⟩ := pairsT2 I t
    obtain ⟨its, rv, ht, _⟩ := I.tuple (SqT.of h.1)
    obtain ⟨u, y, ei, ru, ry⟩ := vals2 rv
    subst ei
    obtain rfl : u = Value.ref p.2 := ru
    refine ⟨(kv.1, p.2, y) :: prs, (.ref p.2, y) :: pv, .cons ⟨rfl, h.2, ry⟩ r, by rw [List.length_cons, List.length_cons, hl], by rw [List.length_cons, List.length_cons, hl2], fun j u' y' e => ?_⟩
    cases j with
    | zero =>
      have e' : (Value.ref p.2, y) = (u', y') := Option.some.inj e
      cases e'
      exact ⟨p.1, p.2, kv.1, rfl, rfl, rfl, ht⟩
    | succ j =>
      obtain ⟨b, c, k, e1, e2, e3⟩ := hp j u' y' (by simpa using e)
      exact ⟨b, c, k, by simpa using e1, e2, by simpa using e3.1, e3.2⟩
/-- dict(pairs), the keys tuples of numbers and texts, each once -/
def gDictT : GC := fun S ds => match ds with
  | [.lst xs] => (kvsOfT xs).bind fun kvs => if (keysT kvs).Nodup ∧ kvs.length ≤ 100000 then some (.dct true kvs) else none
  | _ => none
theorem cl_dictT (hc : X.calm = true) (hu : X.A.units + 64 < cLine) : CallL X (.type "dict") gDictT := ⟨fun pins s σ H m S xs ds d us I q r rv e => by
  unfold gDictT at e
  split at e
  · rename_i ys
    cases q1 : kvsOfT ys with
    | none => rw [q1] at e; cases e
    | some kvs =>
      rw [q1] at e
      dsimp only [Option.bind] at e
      split at e
      · rename_i hk
        cases e
        obtain ⟨v, rfl, w⟩ := r.one
        obtain ⟨a, vs, rfl, h1, r1⟩ := vw_lst (S := S) q w rfl
        obtain ⟨ps, ks, rfl, hp, hd, hkeys⟩ := kvs_pairedT r1 q1
        rw [Vals.ref1 rv]
        obtain ⟨its, rv', ⟨o, n, ho, hcl, hdn, hdat⟩, hz⟩ := I.list h1
        have hmm : (ps.map fun p => V.ref p.1) = (ps.map (·.1)).map V.ref := by rw [List.map_map]; rfl
        rw [hmm] at rv'
        have ei := refs_at rv'
        subst ei
        obtain ⟨prs, pv, rel, hl, hl2, hpr⟩ := pairsT2 I hp
        rw [List.length_map] at hz
        have relH := rel
        refine PySem.call_dict_pairsH (knd := tupleKind (mixKind X.prog X.w)) (ps := prs) (PairArg.list a ((ps.map (·.1)).map Value.ref).toArray (fun j => (ps.map (·.1)).getD j 0) pv) (I.ok.hd hc) (tupleKind_room_in1 (A := X.A.in1) (by show X.A.units + 1 + 1 < cLine; omega)) ⟨⟨o, n, ho, hcl, hdn, hdat⟩, by simp [hl2], fun j u y e => ?_⟩ ⟨by rw [hl, hl2], fun j u y e => ?_⟩ (fun h' hk' x hx => ?_) (by rw [hl2]; exact hz) fun h' tk hd' k => ?_
        · obtain ⟨b, c, k, e1, e2, e3, e4⟩ := hpr j u y e
          have eb : (ps.map (·.1)).getD j 0 = b := by simp [List.getD_eq_getElem?_getD, e1]
          exact ⟨by simp [e1, List.getD_eq_getElem?_getD], .inl (by show s.heap.IsTuple ((ps.map (·.1)).getD j 0) #[u, y]; rw [eb]; exact e4)⟩
        · obtain ⟨b, c, k, e1, e2, e3, e4⟩ := hpr j u y e
          exact ⟨k, c, e3, e2⟩
        · have hx' : H x.2.1 = some (.tup (x.1.map kV)) := by
            obtain ⟨y, z1, z2, _⟩ := paired_right rel x hx
            rw [← z1]; exact z2
          obtain ⟨ob, it, n', g1, g2⟩ := key_of I.hok hx'
          exact ⟨ob, it, n', hk' _ _ (Nat.ne_of_lt (Heap.lt_size g1)) (fun z => nomatch z) g1, g2⟩
        · have hn : H s.heap.objs.size = none := I.hok.fresh (Nat.le_refl _)
          have hsys : (s.heap.objs.size == sysModules) = false := beq_eq_false_iff_ne.mpr (Nat.ne_of_gt I.big)
          have hpk : prs.map (·.1) = ks.map (·.1) := paired_keys rel fun _ _ z => z.1
          have hm : storedAllH [] prs = prs := by
            have := storedAll_nd prs [] (by rw [hpk, hkeys]; exact hk.1)
            simpa using this
          rw [hm] at hd'
          have hlen : ks.length ≤ sizeLine := by rw [vdt_len hd]; exact Nat.le_trans hk.2 (by decide)
          obtain ⟨ob, es, ep, g1, g2, g3, g4, g5, g6⟩ := hd'
          have rel2 : Paired (fun (p : List Key × V) (q : List Key × Addr × Value) => p.1 = q.1 ∧ upd H s.heap.objs.size (.dT ks) q.2.1 = some (.tup (p.1.map kV)) ∧ RelV p.2 q.2.2) ks prs := L2.Paired.mapP rel fun p q z => ⟨z.1, by rw [upd_ne (fun e => by rw [e, hn] at z; cases z.2.1)]; exact z.2.1, z.2.2⟩
          exact ⟨.ref s.heap.objs.size, upd H s.heap.objs.size (.dT ks), m, I.laid (t' := tk) (fun b o e => k b o (fun z => nomatch z) e) (Nat.le_refl _) (show ObjOk X.prog X.w _ _ _ (.dT ks) from ⟨hlen, hsys, prs, rel2, ob, es, ep, g1, g2, g3, g4, g6⟩), rfl, Ext.fresh hn, q.fresh hn, .dctT (q.nin hn) upd_same (VDt.ext (Ext.fresh hn) q.muts hd)⟩
      · cases e
  · cases e⟩
end
end MP

/-! ### list(zip(xs, ys)) of two lists -/
namespace MP
open PySem PySem.W PySem.Spec PyProof.Rows L2
/-- the made tuples: rising places, each a pair -/
structure Prs (xs ys : Array Value) (lo : Addr) (h : Heap) (as : List Addr) : Prop where
  rise : as.Pairwise (· < ·)
  above : ∀ a ∈ as, lo < a
  prs : ∀ (j : Nat) (a : Addr), as[j]? = some a → ∃ x y, xs[j]? = some x ∧ ys[j]? = some y ∧ IsPair h a x y
theorem Prs.nil {xs ys : Array Value} {lo : Addr} {h : Heap} : Prs xs ys lo h [] := ⟨List.Pairwise.nil, (fun _ z => nomatch z), (fun j a z => by simp at z)⟩
theorem Prs.snoc {xs ys : Array Value} {lo : Addr} {h h' : Heap} {as : List Addr} {x y : Value} (g : Prs xs ys lo h as) (hlo : lo < h.objs.size) (ex : xs[as.length]? = some x) (ey : ys[as.length]? = some y) (new : IsPair h' h.objs.size x y) (k : ∀ a, lo < a → ∀ o, h.get? a = some o → h'.get? a = some o) : Prs xs ys lo h' (as ++ [h.objs.size]) where
  rise := List.pairwise_append.mpr ⟨g.rise, List.pairwise_singleton _ _, fun a ha b hb => by
    obtain ⟨j, hj⟩ := List.getElem?_of_mem ha
    obtain ⟨_, _, _, _, e⟩ := g.prs j a hj
    rw [List.mem_singleton.mp hb]
    exact Heap.lt_size e⟩
  above := fun a ha => by
    rcases List.mem_append.mp ha with z | z
    · exact g.above a z
    · rw [List.mem_singleton.mp z]; exact hlo
  prs := fun j a e => by
    by_cases q : j < as.length
    · rw [List.getElem?_append_left q] at e
      obtain ⟨u, v, e1, e2, e3⟩ := g.prs j a e
      exact ⟨u, v, e1, e2, k a (g.above a (List.mem_of_getElem? e)) _ e3⟩
    · by_cases q2 : j = as.length
      · subst q2
        have e' : h.objs.size = a := by simpa using e
        subst e'
        exact ⟨x, y, ex, ey, new⟩
      · rw [List.getElem?_eq_none (by rw [List.length_append, List.length_singleton]; omega)] at e
        cases e
/-- a zip of two lists that stands at its i-th turn, while a list grows at S -/
structure Zt (z TI TO i1 i2 l1 l2 S : Addr) (xs ys : Array Value) (h : Heap) (i : Nat) : Prop where
  ti : IsPair h TI (.ref i1) (.ref i2)
  ia : h.IsListIter i1 l1 i
  ib : h.IsListIter i2 l2 i
  la : h.IsList l1 xs
  lb : h.IsList l2 ys
  out : (IsZip h z TI TO .none ∧ ∃ p q, IsPair h TO p q) ∨ ∃ T f oT, IsZipHeld h z TI TO T f ∧ h.get? T = some oT ∧ T ≠ z ∧ T ≠ i1 ∧ T ≠ i2 ∧ T ≠ S
section
variable {z TI TO i1 i2 l1 l2 S : Addr} {xs ys : Array Value}
theorem Zt.frame {h h' : Heap} {i : Nat} (t : Zt z TI TO i1 i2 l1 l2 S xs ys h i) (hS : S ∉ [z, TI, TO, i1, i2, l1, l2]) (k : ∀ b o, b ≠ S → h.get? b = some o → h'.get? b = some o) : Zt z TI TO i1 i2 l1 l2 S xs ys h' i := by
  simp only [List.mem_cons, List.not_mem_nil, or_false, not_or] at hS
  obtain ⟨s1, s2, s3, s4, s5, s6, s7⟩ := hS
  refine ⟨k _ _ (Ne.symm s2) t.ti, t.ia.at fun o e => k _ o (Ne.symm s4) e, t.ib.at fun o e => k _ o (Ne.symm s5) e, t.la.at fun o e => k _ o (Ne.symm s6) e, t.lb.at fun o e => k _ o (Ne.symm s7) e, ?_⟩
  rcases t.out with ⟨g, p, q, e⟩ | ⟨T, f, oT, g, e, n1, n2, n3, n4⟩
  · exact .inl ⟨k _ _ (Ne.symm s1) g, p, q, k _ _ (Ne.symm s3) e⟩
  · exact .inr ⟨T, f, oT, k _ _ (Ne.symm s1) g, k _ _ n4 e, n1, n2, n3, n4⟩
variable {prog : Program} {w : World} {A : Around} {E : Value → Shared → Prop} {s : Shared}
theorem Zt.turn {Q : Option Value → Shared → Prop} {i : Nat} {x y : Value} (D : ZipApart z TI TO i1 i2 l1 l2) (t : Zt z TI TO i1 i2 l1 l2 S xs ys s.heap i) (hS : S < s.heap.objs.size) (ex : xs[i]? = some x) (ey : ys[i]? = some y)
    (hQ : ∀ h', Zt z TI TO i1 i2 l1 l2 S xs ys h' (i + 1) → IsPair h' s.heap.objs.size x y → (∀ c o, c ∉ [z, TO, i1, i2] → s.heap.get? c = some o → h'.get? c = some o) → Q (some (.ref s.heap.objs.size)) { s with heap := h' }) :
    wpAny (model prog w) A (pyNext (.ref z)) Q E s := by
  have apart : ∀ {c o}, s.heap.get? c = some o → s.heap.objs.size ≠ c := fun e => Nat.ne_of_gt (Heap.lt_size e)
  obtain ⟨o1, q1, _⟩ := id t.ia
  obtain ⟨o2, q2, _⟩ := id t.ib
  rcases t.out with ⟨g, p, q, e⟩ | ⟨T, f, oT, g, e, n1, n2, n3, n4⟩
  · refine wpAny_pyNext_zip_item D g t.ti e t.ia t.ib t.la t.lb ex ey fun h' b1 b2 b3 b4 b5 b6 keep => ?_
    refine hQ h' ⟨keep _ _ D.TIz D.TITO D.TIi1 D.TIi2 t.ti, b3, b4, t.la.at fun o e => keep _ o D.l1z D.l1TO D.l1i1 D.l1i2 e, t.lb.at fun o e => keep _ o D.l2z D.l2TO D.l2i1 D.l2i2 e, .inr ⟨_, false, _, b1, b5, apart g, apart q1, apart q2, Nat.ne_of_gt hS⟩⟩ b5 fun c o nc e => ?_
    simp only [List.mem_cons, List.not_mem_nil, or_false, not_or] at nc
    exact keep c o nc.1 nc.2.1 nc.2.2.1 nc.2.2.2 e
  · refine wpAny_pyNext_zip_item_held D g e t.ti t.ia t.ib t.la t.lb ex ey fun h' b1 b3 b4 b5 b6 keep => ?_
    refine hQ h' ⟨keep _ _ D.TIz D.TIi1 D.TIi2 t.ti, b3, b4, t.la.at fun o e => keep _ o D.l1z D.l1i1 D.l1i2 e, t.lb.at fun o e => keep _ o D.l2z D.l2i1 D.l2i2 e, .inr ⟨T, true, oT, b1, keep _ _ n1 n2 n3 e, n1, n2, n3, n4⟩⟩ b5 fun c o nc e => ?_
    simp only [List.mem_cons, List.not_mem_nil, or_false, not_or] at nc
    exact keep c o nc.1 nc.2.2.1 nc.2.2.2 e
theorem Zt.over {Q : Option Value → Shared → Prop} {i : Nat} (hh : A.handled = none) (D : ZipApart z TI TO i1 i2 l1 l2) (t : Zt z TI TO i1 i2 l1 l2 S xs ys s.heap i) (no : xs[i]? = none ∨ ys[i]? = none)
    (hQ : ∀ h', (∀ c o, c ∉ [z, TO, i1, i2] → s.heap.get? c = some o → h'.get? c = some o) → Q none { s with heap := h' }) : wpAny (model prog w) A (pyNext (.ref z)) Q E s := by
  rcases t.out with ⟨g, p, q, e⟩ | ⟨T, f, oT, g, e, n1, n2, n3, n4⟩
  · refine wpAny_pyNext_zip_end hh D g t.ti e t.ia t.ib t.la t.lb no fun h' keep => hQ h' fun c o nc e => ?_
    simp only [List.mem_cons, List.not_mem_nil, or_false, not_or] at nc
    exact keep c o nc.1 nc.2.1 nc.2.2.1 nc.2.2.2 e
  · refine wpAny_pyNext_zip_end_held hh D g e t.ti t.ia t.ib t.la t.lb no fun h' keep => hQ h' fun c o nc e => ?_
    simp only [List.mem_cons, List.not_mem_nil, or_false, not_or] at nc
    exact keep c o nc.1 nc.2.2.1 nc.2.2.2 e
variable {R : Result → Shared → Prop}
end
end MP

namespace MP
open PySem PySem.W PySem.Spec PyProof.Rows L2
section
variable {X : Cx} {m : List Addr} {H : Hp} {S : Sto} {h' : Heap} {sz lo : Addr} {us ws : Array Value} {as : List Addr} {vs zs : List V} {xs ys : List D}
/-- what is known when the first j of the made pairs are tracked -/
structure LayP (X : Cx) (m : List Addr) (H : Hp) (S : Sto) (h' : Heap) (sz : Addr) (as : List Addr) (xs ys : List D) (j : Nat) (H' : Hp) : Prop where
  ok : HOk X.prog X.w H' h'
  old : ∀ b o, H b = some o → H' b = some o
  low : ∀ b, b < sz → H b = none → H' b = none
  high : ∀ b, sz ≤ b → b ∉ as.take j → H' b = none
  ext : Ext m H m H'
  sr : SR X.K m H' S
  vr : VRs X.K m H' ((as.take j).map V.ref) ((zipD xs ys).take j)
end
section
variable {prog : Program} {w : World} {A : Around} {E : Value → Shared → Prop} {s : Shared} {z TI TO i1 i2 l1 l2 : Addr} {xs ys : Array Value}
end
/-- the list of the pairs of two lists -/
def gListZip : GC := fun _ ds => match ds with
  | [.lst xs, .lst ys] => if (zipD xs ys).length ≤ 100000 then some (.lst (zipD xs ys)) else none
  | _ => none
end MP

/-! ### min of a list of texts; range(i, j, 2) -/
namespace MP
open PySem PySem.W PySem.Spec PyProof.Rows L2
def minS (x : Str) (xs : List Str) : Str := xs.foldl (fun a y => if decide (y.cps.toList < a.cps.toList) then y else a) x
def gMinS : GC := fun S ds => match ds with
  | [d] => match vw S d with
    | .lst l => match strsD l with
      | some (x :: xs) => some (.str (minS x xs))
      | _ => none
    | _ => none
  | _ => none
/-- range(i, j, c), c from 1 on -/
def lRange3 (t : LA) : LI := fun ρ S => (t ρ S).bind fun ds S1 => match ds with
  | [.int i, .int j, .int c] => if 0 ≤ i ∧ i < 2 ^ 20 ∧ -(2 ^ 20) ≤ j ∧ j < 2 ^ 20 ∧ c = 2 then .ok ⟨(List.range ((j - i + 1) / 2).toNat).map fun (k : Nat) => .int (i + (k : Int) * 2), fun _ => True⟩ S1 else .bad
  | _ => .bad
end MP

/-! ### x not in [None, an object, an object], by an own __eq__ -/
namespace MP
open PySem PySem.SeqAt PySem.MeetsSeq PySem.MeetsSeq2 PySem.MeetsSeq3 PySem.SeqRoads2
open PySem.AutoSeq1 (wpAny_loadPart')
section
variable {prog : Program} {w : World} {A : Around} {R : Result → Shared → Prop}
end
end MP

namespace MP
open PySem PySem.Spec PyProof.Rows L2
section
variable {X : Cx} {C : Addr} {ts : List Tg} {gp : G2} {k : Nat} {f : Addr} {fd : FuncData} {ps : List Str} {A' : Around}
/-- what is had behind such a comparison -/
def Beh (X : Cx) (pins : List (Addr × Obj)) (σ : L2.St) (m : List Addr) (H : Hp) (S : Sto) (s' : Shared) : Prop := ∃ H' m', Inv X pins σ H' s' ∧ Ext m H m' H' ∧ SR X.K m' H' S
/-- x not in [None, d, e]: some False where e is as x is -/
def gNotIn3 (C : Addr) (ts : List Tg) (gp : G2) : G2 := fun S x y => match y with
  | .lst [.non, d, e] => match gp S x .non, gOwnEq C ts gp S d x, gOwnEq C ts gp S e x, vw S x with
    | some (.bl false), some (.bl _), some (.bl true), .obj C' _ => if C' = C then some (.bl false) else none
    | _, _, _, _ => none
  | _ => none
end
end MP

/-! ### a def with defaults -/
namespace MP
open PySem PySem.Spec PyProof.Rows L2
section
variable {P : Program} {w : World} {K : PySem.W.Frag} {mg : Str → Option Value} {base : Heap}
theorem FunD.okG {x qual : Str} {params : Arguments} {body : List Stmt} {scope : Scope} {dvs : List V} {kws : List (Str × V)} {f : Addr} {fd : FuncData} {N ps : List Str} {k : Nat} {sp : Sp} (F : FunD K x qual params body scope dvs kws f fd) (S : FnScope N ps scope) (len : ∀ vs H Q E, sp vs H Q E → vs.length = ps.length)
    (hbody : ∀ (cdv : Value) (A : Around) (outer : List Env) (s : Shared) (H : Hp) (vs : List V) (Q : VK) (E : XK), MP.Room k (A.deeper (envOfC qual scope s.heap.objs.size f cdv)) → sp vs H Q E →
      ∃ t, PSs (cxOf (L2.CX P w) P w K mg base N qual scope f cdv A outer s H E) body t ∧ t { nx := fun _ H' => Q .non H', rt := Q } (L2.start N vs) H) : MP.FnOk P w K mg base (L2.CX P w) (k + 1) f fd ps sp := by
  obtain ⟨oc, od, dV, kV, doc, pm, an, cdv, ct, osl, rfl, lk, hcd, _, _⟩ := F.ex
  exact fnG_of lk hcd S len fun A outer s H vs Q E hr hsp => hbody cdv A outer s H vs Q E hr hsp
theorem FunD.okL {x qual : Str} {params : Arguments} {body : List Stmt} {scope : Scope} {dvs : List V} {kws : List (Str × V)} {f : Addr} {fd : FuncData} {N ps : List Str} {k : Nat} {lb : LS} (Fn : FunD K x qual params body scope dvs kws f fd) (S : FnScope N ps scope)
    (hb : ∀ (cdv : Value) (A : Around) (outer : List Env) (s : Shared) (H : Hp) (E : XK), Room k (A.deeper (envOfC qual scope s.heap.objs.size f cdv)) → PSsL (cxL P w K mg base N qual scope f cdv A outer s H E) body lb) :
    FnL P w K mg base (k + 1) f fd ps (bodyF N.length lb) := by
  refine FunD.okG Fn S (fun vs H Q E h => h.1) fun cdv A outer s H vs Q E hr h => ⟨_, hb cdv A outer s H E hr, ?_⟩
  obtain ⟨hl, m, S0, ds, x0, r, nb, q1, q2⟩ := h
  refine ⟨m, ds.map some ++ List.replicate (N.length - ds.length) none, S0, x0, ?_, ?_, ?_⟩
  · exact er_start r
  · simp [L2.start, r.length]
  · have hB : ∀ a, bodyF N.length lb ds S0 = a → fin (lb (ds.map some ++ List.replicate (N.length - ds.length) none) S0) = a := fun a h => h
    generalize hA : lb (ds.map some ++ List.replicate (N.length - ds.length) none) S0 = A0 at hB
    have hb0 : bodyF N.length lb ds S0 = fin A0 := by unfold bodyF; rw [hA]
    rw [hb0] at nb q1 q2
    refine ⟨?_, fun ρ' S' e σ' H' ⟨m', e', x', er', _⟩ => ?_, fun d S' e v H' z => ?_, fun ρ' S' e => ?_, fun ρ' S' e => ?_, fun C fs ρ' S' e u s' z => ?_⟩
    · cases A0 with
      | bad => exact absurd rfl nb
      | exc C fs S' => exact absurd rfl nb
      | ok fl S' => exact ⟨fl, S', rfl⟩
    · subst e
      exact q1 .non S' rfl .non H' ⟨m', e', x', .non⟩
    · subst e
      exact q1 d S' rfl v H' z
    · subst e
      exact absurd rfl nb
    · subst e
      exact absurd rfl nb
    · subst e
      refine takes_of (E := E) rfl rfl rfl rfl u s' (XE.imp z fun cls d σ' H' w => ?_)
      obtain ⟨w1, m', w2, w4, w5, _⟩ := w
      exact q2 C fs S' rfl cls d H' ⟨w1, m', w2, w4, w5⟩
end
end MP

/-! sum of numbers, list.extend, dict(..) put into the store, is a truth, < of any data, in a tuple of texts -/
namespace MP
open PySem PySem.Spec PyProof.Rows L2
section
variable {X : Cx}
def intsOf : List D → Option (List Int)
  | [] => some []
  | .int b :: r => (intsOf r).map fun bs => b :: bs
  | _ => none
def gSum : GC := fun S ds => match ds with
  | [d] => match vw S d with
    | .lst xs => (intsOf xs).map fun bs => .int bs.sum
    | _ => none
  | _ => none
/-- x is True, x is False -/
def gIsB : G2 := fun _ x y => match x, y with
  | .bl a, .bl b => some (.bl (decide (a = b)))
  | _, _ => none
def notNon : PyData → Bool
  | .none => false
  | _ => true
/-- x < y, of any data -/
def gLtD : G2 := fun S x y => match toPD (vw S x), toPD (vw S y) with
  | some p, some q => if PySem.W.alike p q = true ∧ notNon p = true ∧ p.depth ≤ 50 then some (.bl (PySem.W.dataLt p q)) else none
  | _, _ => none
/-- in a tuple of texts -/
def gInT : G2 := fun S x y => match vw S x, y with
  | .str i, .tup l => (strsD l).map fun ys => .bl (decide (i ∈ ys))
  | _, _ => none
def gNotInT : G2 := fun S x y => match vw S x, y with
  | .str i, .tup l => (strsD l).map fun ys => .bl (!decide (i ∈ ys))
  | _, _ => none
end
end MP

/-! list.extend by any list -/
namespace PySem.AutoSeq1
open PySem PySem.MeetsSeq
theorem extend_any (l : Addr) (items : Array Value) (n : Nat) (b : Addr) (items2 : Array Value) (n2 : Nat) (dd2 : Option Addr) (sl2 : Array (Option Value)) (hc0 : ¬(!items.isEmpty && Builtin.List.listTooLong (items.size + items2.size)) = true) (hc1 : items.size ≤ sizeLine) (hs2 : items.size + items2.size ≤ sizeLine + 1) :
    Meets (Builtin.«list.extend» ⟨[.ref l, .ref b], []⟩) (fun _ R s => s.heap.get? l = some { cls := .type "list", dict := none, data := .seq items n, slots := #[] } ∧ s.heap.get? b = some { cls := .type "list", dict := dd2, data := .seq items2 n2, slots := sl2 } ∧ R (.ok (.ret Value.none)) { s with heap := s.heap.update l (Obj.mapSeq fun x => x ++ items2), toks := s.toks }) :=
  .of_wp fun prog w A R s h => by
    obtain ⟨hp, g, d, tk, os⟩ := s; obtain ⟨hl, hb, h⟩ := h; have f1 := idx_int; have f2 := sub_tuple_tuple; have f3 := sub_list_list; have f4 := sub_tuple_list; have f5 := sub_list_tuple;
    have hz' : (items ++ items2).size ≤ sizeLine + 1 := by rw [Array.size_append]; exact hs2
    wp_walk using (wpAny_updateSeq hl rfl (hz := hc1) (_hz' := hz')), wpAny_loadPart' hl, wpAny_loadPart' hb; exact ⟨_, rfl, h⟩
end PySem.AutoSeq1
namespace MP
open PySem PySem.Spec PyProof.Rows L2
section
variable {X : Cx}
/-- xs.extend(a list) -/
def stExt : GM := fun S r ds => match r, ds with
  | .ref j, [.lst ys] => match S[j]? with
    | some (.lst xs) => if xs.length + ys.length ≤ 100000 then some (.non, S.set j (.lst (xs ++ ys))) else none
    | _ => none
  | _, _ => none
theorem mtl_extend : MtL X "list.extend" stExt := ⟨fun pins s σ H m S S' x dx d xs ds v us I q r rs rv rvs e => by
  unfold stExt at e
  split at e
  · rename_i j ys
    split at e
    · rename_i l q1
      split at e
      · rename_i hz0
        cases e
        have hz : l.length + ys.length ≤ sizeLine := Nat.le_trans hz0 (by decide)
        obtain ⟨a, rfl, ha, orr⟩ := VR.ref_at q r q1
        obtain ⟨w, rfl, rw'⟩ := rs.one
        obtain ⟨b, zs, rfl, h1, r1⟩ := vw_lst (S := S) q rw' rfl
        cases rv
        obtain ⟨u, rfl, ru⟩ := rvs.one
        cases ru
        cases orr with
        | @lst vs _ hh rr =>
          obtain ⟨z, its, n, r0, hl, e⟩ := I.lstM hh
          obtain ⟨its2, r2, ⟨o2, n2, e2, hc2, hd2, hs2⟩, hz2⟩ := I.list h1
          obtain ⟨c2, dd2, dat2, sl2⟩ := o2
          simp only at hc2 hd2 hs2
          subst hc2 hd2 hs2
          have l1 : its.length = l.length := by rw [← r0.length, rr.length]
          have l2 : its2.length = ys.length := by rw [← r2.length, r1.length]
          have hsz : its.toArray.size + its2.toArray.size ≤ sizeLine := by rw [List.size_toArray, List.size_toArray]; omega
          have hlong : ¬ (!its.toArray.isEmpty && Builtin.List.listTooLong (its.toArray.size + its2.toArray.size)) = true := by
            rw [notLongL hsz, Bool.and_false]
            exact Bool.false_ne_true
          obtain ⟨z1, z2⟩ := q.write (o' := .lst (vs ++ zs)) (ob' := .lst (l ++ ys)) ha fun e => .lst upd_same ((rr.append r1).ext e q.muts)
          refine call_meets PySem.F.slot_list_extend ⟨_, e, rfl⟩ PySem.F.entry_list_extend (PySem.F.args_list_extend_2 _ _)
            (PySem.AutoSeq1.extend_any a its.toArray n b its2.toArray n2 none sl2 hlong (by rw [List.size_toArray]; omega) (by omega)) ⟨e, e2, ?_⟩
          exact ⟨.non, _, m, I.lset (its' := its ++ its2) hh e (by simp) (r0.append r2) (by rw [List.length_append]; have h1 := r0.length; have h2 := r2.length; omega), rfl, z1, z2, .non⟩
      · cases e
    · cases e
  · cases e⟩
theorem list_extend_ty : typeOf (.builtin "list.extend") = (pure (.type "method_descriptor") : Sem Value) := PySem.F.type_list_extend
theorem pel_extend {o e : Expr} {lo : LE} {le : LE} {apos cpos : Pos} (ho : PEL X o lo) (he : PEL X e le)
    (hbase : attributeBase o "extend" X.env (eval o X.env) = eval o X.env := by rfl)
    (hfew : ((backTo cpos (starEach [e] X.env)).all (fun x => !x.1) && (backToKw cpos (keywordEach [] X.env)).all (fun x => x.1.isSome)
      && decide ([e].length + ([] : List Keyword).length + (if ([] : List Keyword).isEmpty then 0 else 1) < 30)) = true := by rfl)
    (hline : (apos.endLine == cpos.line) = true := by rfl) (hs : starEach [e] X.env = (false, eval e X.env) :: starEach [] X.env := by rfl) :
    PEL X (.Call (.Attribute o "extend" apos) [e] [] cpos) (lBM "list" stExt lo (aCons le aNil)) :=
  pel_bm PySem.F.plainAttrs_list PySem.F.slot_list_extend list_extend_ty mtl_extend ho (pal_cons he pal_nil hs) hbase hfew hline hs
/-- dict(pairs) into the store -/
def lDictN (t : LA) : LE := fun ρ S => (t ρ S).bind fun ds S1 => match ds with
  | [.lst xs] => match kvsOf xs with
    | some kvs => if (keysK kvs).Nodup ∧ kvs.length ≤ 100000 then .ok (.ref S1.length) (S1 ++ [.dct false kvs]) else .bad
    | none => .bad
  | _ => .bad
end
end MP

/-! int(a text of many figures): 1 and 900 noughts -/
namespace PySem.W
open PySem PySem.Calls PySem.NumText PyProof.Rows
def bigS : Str := ⟨(49 :: List.replicate 900 48).toArray⟩
end PySem.W
namespace MP
open PySem PySem.Spec PyProof.Rows L2
section
variable {X : Cx}
def gIntBig : GC := fun _ ds => match ds with
  | [.str z] => if z = PySem.W.bigS then some (.int ((10 ^ 900 : Nat) : Int)) else none
  | _ => none
end
end MP

/-! sorted(zip(a, b)), tuple(zip(a, b)) of two lists -/
namespace MP
open PySem PySem.W PySem.Spec PyProof.Rows L2
open AutoSeq1 (wpAny_loadPart')
section
variable {prog : Program} {w : World} {A : Around} {E : Value → Shared → Prop} {s : Shared} {z TI TO i1 i2 l1 l2 : Addr} {xs ys : Array Value}
end
section
variable {prog : Program} {w : World}
end
section
variable {X : Cx} {pins : List (Addr × Obj)} {σ : L2.St} {H1 : Hp} {s1 : Shared} {m1 : List Addr} {S1 : Sto}
end
/-- sorted(zip(xs, ys)) -/
def gSortZip : GC := fun S ds => match ds with
  | [dx, dy] => match vw S dx, vw S dy with
    | .lst xs, .lst ys => if (zipD xs ys).length ≤ 100000 ∧ srtOk (zipD xs ys) = true then some (.lst ((zipD xs ys).mergeSort leD)) else none
    | _, _ => none
  | _ => none
/-- tuple(zip(xs, ys)) -/
def gTupZip : GC := fun S ds => match ds with
  | [dx, dy] => match vw S dx, vw S dy with
    | .lst xs, .lst ys => if (zipD xs ys).length ≤ 100000 then some (.ftup (zipD xs ys)) else none
    | _, _ => none
  | _ => none
end MP

namespace MP
open PySem PySem.Spec PyProof.Rows L2
section
variable {P : Program} {w : World} {A : Around} {R : Result → Shared → Prop} {E : Value → Shared → Prop} {s : Shared}
end
end MP

/-! sorted(set(a tuple of texts)), len(set(a list of pairs of texts)) -/
namespace MP
open PySem PySem.Spec PyProof.Rows L2
section
variable {P : Program} {w : World} {A : Around} {R : Result → Shared → Prop} {E : Value → Shared → Prop} {s : Shared}
end
/-- sorted(set(a tuple of texts)) -/
def gSortSetT : GC := fun _ ds => match ds with
  | [.tup l] => match strsD l with
    | some ys => if ys.length ≤ 4000 then some (.lst ((srtS ys).map D.str)) else none
    | none => none
  | _ => none
/-- len(set(a list of pairs of texts)) -/
def gLenSetP : GC := fun S ds => match ds with
  | [d] => match vw S d with
    | .lst xs => match psOf xs with
      | some ps => if ps.length < 64 then some (.int ((nubP ps).length : Int)) else none
      | none => none
    | _ => none
  | _ => none
end MP

/-! what a def made and nobody reaches any more is let go; what it tells is data then -/
namespace MP
open PySem PySem.Spec PyProof.Rows L2
section
variable {K : PySem.W.Frag} {m l : List Addr} {H H' : Hp} {S S' : Sto}
theorem sr_gcw {m' : List Addr} (x : SR K m H S) (e : Ext m H m' H') (x' : SR K m' H' S') (h : ∀ (i : Nat) (o : O), S'[i]? = some o → i < S.length → S[i]? = some o ∨ belowo S.length o = true) : SR K m H' (S'.take S.length) ∧ Ext m H m H' := by
  obtain ⟨l, el⟩ := e.pre
  subst el
  have l1 := x.len
  have l2 := x'.len
  rw [List.length_append] at l2
  refine ⟨⟨x.nd, by rw [List.length_take]; omega, fun i a o h1 h2 => ?_⟩, ⟨[], by simp⟩, fun a h => .inl h, e.keep⟩
  have hi := (List.getElem?_eq_some_iff.mp h1).1
  have hi2 : i < S.length := by omega
  rw [List.getElem?_take, if_pos hi2] at h2
  have hb : belowo m.length o = true := by
    rcases h i o h2 hi2 with z | z
    · exact (x.at_ i a o h1 z).bel
    · rw [l1]; exact z
  exact (x'.at_ i a o (by rw [List.getElem?_append_left hi]; exact h1) h2).down hb
theorem qv_gcw {d : D} {v : V} (x : SR K m H S) (q : QV K m H S' d v H') (h : ∀ (i : Nat) (o : O), S'[i]? = some o → i < S.length → S[i]? = some o ∨ belowo S.length o = true) (b : below S.length (fz S' S.length d) = true) : QV K m H (S'.take S.length) (fz S' S.length d) v H' := by
  obtain ⟨m', e, x', w⟩ := q
  obtain ⟨y1, y2⟩ := sr_gcw x e x' h
  obtain ⟨l, el⟩ := e.pre
  subst el
  rw [← x.len] at b y1 ⊢
  exact ⟨m, y2, y1, w.fz_down x' b⟩
end
def Okd (S S' : Sto) : Prop := ∀ (i : Nat) (o : O), S'[i]? = some o → i < S.length → S[i]? = some o ∨ belowo S.length o = true
open Classical in
noncomputable def gcF (g : F) : F := fun ds S => match g ds S with
  | .ok d S' => if below S.length (fz S' S.length d) = true ∧ Okd S S' then .ok (fz S' S.length d) (S'.take S.length) else .ok d S'
  | r => r
theorem FnL.gc {P : Program} {w : World} {K : PySem.W.Frag} {mg : Str → Option Value} {base : Heap} {k : Nat} {f : Addr} {fd : FuncData} {ps : List Str} {g : F} (h : FnL P w K mg base k f fd ps g) : FnL P w K mg base k f fd ps (gcF g) := by
  refine FnOk.imp h fun vs H Q E ⟨hl, m, S, ds, x, r, nb, q1, q2⟩ => ⟨hl, m, S, ds, x, r, ?_⟩
  unfold gcF at nb q1 q2
  cases hg : g ds S with
  | bad => rw [hg] at nb; exact absurd rfl nb
  | exc C fs S1 =>
    rw [hg] at q1 q2
    exact ⟨fun z => (nomatch z), fun d S' e => (nomatch e), fun C' fs' S' e => by cases e; exact q2 _ _ _ rfl⟩
  | ok d S1 =>
    rw [hg] at q1 q2
    dsimp only at q1 q2
    refine ⟨fun z => (nomatch z), fun d' S' e v H' qv => ?_, fun C' fs' S' e => (nomatch e)⟩
    cases e
    by_cases hc : below S.length (fz S1 S.length d) = true ∧ Okd S S1
    · rw [if_pos hc] at q1
      exact q1 _ _ rfl v H' (qv_gcw x qv hc.2 hc.1)
    · rw [if_neg hc] at q1
      exact q1 _ _ rfl v H' qv
theorem gcF_ok {g : F} {ds : List D} {S S' S2 : Sto} {d d' : D} (h : g ds S = .ok d S') (e1 : fz S' S.length d = d') (e2 : S'.take S.length = S2) (b : below S.length d' = true) (h2 : Okd S S') : gcF g ds S = .ok d' S2 := by
  unfold gcF
  rw [h]
  dsimp only
  rw [e1, e2]
  exact if_pos ⟨b, h2⟩
end MP

namespace MP
open PySem PySem.Spec PyProof.Rows L2

/-! ### enumerate(a list, start=c) (the road of L2.turn_enum, with the count apart from the place) -/
section
variable {M : Model} {A : Around} {E : Value → Shared → Prop} {s : Shared} {env : Env}
end
def IteC (K : PySem.W.Frag) (c : Int) (a : Addr) : It :=
  ⟨fun i H => ∃ (xs : List V) (x : V), SqL K H a xs ∧ xs[i]? = some x, fun i H v H' => ∃ T x, v = .ref T ∧ H T = none ∧ H' = upd H T (.tup [.int (c + (i : Int)), x]) ∧ ∀ xs, SqL K H a xs → xs[i]? = some x, fun i H => ∃ xs : List V, SqL K H a xs ∧ xs.length ≤ i⟩
def enumFD : Int → List D → List D
  | _, [] => []
  | c, x :: xs => .tup [.int c, x] :: enumFD (c + 1) xs
def lEnumC (c : Int) (t : LA) : LI := fun ρ S => (t ρ S).bind fun ds S1 => match ds with
  | [.lst xs] => .ok ⟨enumFD c xs, fun _ => True⟩ S1
  | _ => .bad
section
variable {X : Cx} {e ek : Expr} {t : LA} {p pos kp : Pos}
end
end MP

namespace MP
open PySem PySem.Spec PyProof.Rows L2

/-! ### a, b, o.f = e; s.partition(t); int(a text); a written dict of defs -/
section
variable {X : Cx}
def stPart : GM := fun S r ds => match r, ds with
  | .str a, [.str b] => if (b.length == 0) = false ∧ a.length ≤ sizeLine then some (.tup [.str (Txt.partition a b).1, .str (Txt.partition a b).2.1, .str (Txt.partition a b).2.2], S) else none
  | _, _ => none
variable {o e : Expr} {lo le : LE} {apos cpos : Pos}
def gIntS : GC := fun _ ds => match ds with
  | [.str a] => if a.length ≤ 640 then (PySem.intText? a).map .int else none
  | _ => none
/-- a short text, many times -/
def gMulT : G2 := fun S dx dy => match vw S dx, vw S dy with
  | .str x, .int n => if 0 ≤ n ∧ n ≤ 10000 ∧ x.length ≤ 10 ∧ (strRep x n).length ≤ sizeLine then some (.str (strRep x n)) else none
  | _, _ => none
/-! the third target: a field of a name's object -/
def gAttr (K : PySem.W.Frag) (i : Nat) (f : Str) : TG := fun v σ H Q => ∃ a C dx fs, σ[i]? = some (some (.ref a)) ∧ H a = some (.ins C dx fs) ∧ Cls K C ∧ NoAttr K C f ∧ fs.length < 1000 ∧ Q σ (upd H a (.ins C dx (putF f v fs)))
theorem pg_attr {i : Nat} {x f : Str} {p ap : Pos} (hN : X.N[i]? = some x) (hv : Vis X.env.scope x) (hdb : (x == ("__debug__" : Str)) = false := by decide) (hcd : (x == ("__classdict__" : Str)) = false := by decide) : PG X (.Attribute (.Name x p) f ap) (gAttr X.K i f) := by
  refine ⟨fun pins s σ H v u Q I r h => ?_⟩
  obtain ⟨a, C, dx, fs, hi, ha, c, n, l, q⟩ := h
  rw [assign_Attribute]
  refine wpAny_bind (wpAny_holding (thn ((pe_var (pos := p) hN hv hdb hcd).run pins s σ H (fun v H1 => v = .ref a ∧ H1 = H) I ⟨.ref a, hi, rfl, rfl⟩) fun ov s1 ⟨w, H1, I1, r1, q1⟩ => ?_))
  obtain ⟨rfl, rfl⟩ := q1
  obtain rfl : ov = Value.ref a := r1
  refine wpAny_bind (wpAny_standAt (wpAny_bind (wpAny_holding ?_)))
  exact setattr_ok I1 ha c n l r fun s2 I2 => wpAny_release ⟨σ, _, I2, q⟩
def lAsg3F (i j k : Nat) (C : Addr) (f : Str) (le : LE) : LS := fun ρ S => liftX ρ (le ρ S) fun d S1 => match d with
  | .tup [a, b, c] => match ρ[k]? with
    | some (some (.ref r)) => if i ≠ k ∧ j ≠ k then liftS (stFld C f S1 (.ref r) c) ((ρ.set i (some a)).set j (some b)) else .bad
    | _ => .bad
  | _ => .bad
variable {x y z : Str} {pos px py pz ap tp : Pos} {kk : Nat} {C : Addr} {f : Str}
/-! ### x not in a written dict of defs; f = d[x]; return f(..) -/
def lNotKd (has : Str → Option Bool) (l : LE) : LE := fun ρ S => (l ρ S).bind fun d S1 => match d with
  | .str z => match has z with
    | some b => .ok (.bl (!b)) S1
    | none => .bad
  | _ => .bad
end
end MP

namespace MP
open PySem PySem.Spec PyProof.Rows L2
/-- the def that a written dict names at a text, called -/
def lTaker (i n : Nat) (sel : Str → Option F) (lk : LE) (t : LA) : LS := fun ρ S => match lk ρ S with
  | .ok (.str z) S1 => match sel z with
    | some g => if i < ρ.length then liftX (ρ.set i none) (lCall n g [] t (ρ.set i none) S1) fun d S2 => .ok (.rt d) S2 else .bad
    | none => .bad
  | _ => .bad
section
variable {X : Cx} {e ke : Expr} {es : List Expr} {lk : LE} {t : LA} {x gn : Str} {pos1 pos2 px pg ps0 pc cpos : Pos} {k n i : Nat}
structure Sels (P : Program) (w : World) (K : PySem.W.Frag) (mg : Str → Option Value) (base : Heap) (k n : Nat) (d : Addr) (sel : Str → Option F) : Prop where
  to : ∀ z g, sel z = some g → ∃ (f : Addr) (fd : FuncData) (ps : List Str), PySem.W.nsIn K d z = some (some (.ref f)) ∧ ps.length = n ∧ FnL P w K mg base k f fd ps g ∧ PySem.W.keepIn K (.ref f) = true ∧ Binds K fd ps []
end
end MP

namespace MP
open PySem PySem.Spec PyProof.Rows L2
section
variable {X : Cx} {x : Str} {p pos : Pos} {k : Nat} {f C : Addr} {fd : FuncData} {ps : List Str} {g : F}
/-- C(), the object staying in the store -/
theorem pel_make0 {n : Nat} {ds0 : List Value} {dvs : List V} {dd : List D} (M : Mk X.K C f) (Fn : FnL X.prog X.w X.K X.mg X.base k f fd ps g) (hr : Room (k + 1) X.A) (hg : Gl X x) (hm : X.mg x = some (.ref C)) (hb : Binds X.K fd ps ds0) (hd : Dfl X.K dvs ds0 dd)
    (hdb : (x == ("__debug__" : Str)) = false := by decide) (hps : ps.length = n + 1 := by rfl) :
    PEL X (.Call (.Name x p) [] [] pos) (lCall n (mkF C g) dd aNil) := by
  refine ⟨fun pins s σ H m ρ S I x r hp => ?_⟩
  refine wpAny_Call_Name_kw (ld_glob I hg hm ?_ hdb)
  have hp1 : Hope X σ m H (if ([] : List D).length + dd.length = n then mkF C g ([] ++ dd) S else .bad) := hp
  have hl := hope_if hp1
  rw [if_pos hl] at hp1
  have e0 : lCall n (mkF C g) dd aNil ρ S = mkF C g ([] ++ dd) S := by show (if ([] : List D).length + dd.length = n then mkF C g ([] ++ dd) S else .bad) = _; rw [if_pos hl]
  rw [e0]
  exact PySem.W.callWith_K0 I.kIn M.kp (run_makeL (us := []) M Fn hr hb hd.vals (hd.rel _ _) I x .nil .nil (by rw [List.nil_append, (hd.rel m H).length, hps]; simpa using hl) (.refl _) hp1)
/-- a number in a tuple of two -/
def gNotInTI : G2 := fun S x y => match vw S x, y with
  | .int i, .tup [.int a, .int b] => some (.bl (!(decide (a = i) || decide (b = i))))
  | _, _ => none
end
end MP

/-! a def whose arguments hold nothing of the store runs as on the empty store -/
namespace MP
open PySem PySem.Spec PyProof.Rows L2
def flatD : D → Bool
  | .non => true
  | .bl _ => true
  | .int _ => true
  | .str _ => true
  | _ => false
def clF (g : F) : F := fun ds S => if belows 0 ds = true then match g ds [] with
  | .ok d _ => if flatD d = true then .ok d S else .bad
  | _ => .bad
  else .bad
theorem FnL.cl {P : Program} {w : World} {K : PySem.W.Frag} {mg : Str → Option Value} {base : Heap} {k : Nat} {f : Addr} {fd : FuncData} {ps : List Str} {g : F} (h : FnL P w K mg base k f fd ps g) : FnL P w K mg base k f fd ps (clF g) := by
  refine FnOk.imp h fun vs H Q E ⟨hl, m, S, ds, x, r, nb, q1, q2⟩ => ?_
  unfold clF at nb q1 q2
  by_cases hb : belows 0 ds = true
  case neg => rw [if_neg hb] at nb; exact absurd rfl nb
  rw [if_pos hb] at nb q1 q2
  have x0 : SR K [] H [] := ⟨List.nodup_nil, rfl, fun i a o h => by simp at h⟩
  have r0 : VRs K ([] ++ m) H vs ds := r
  refine ⟨hl, [], [], ds, x0, r0.down hb, ?_, ?_, ?_⟩
  · intro z
    rw [z] at nb
    exact absurd rfl nb
  · intro d S' e v H' qv
    rw [e] at nb q1
    dsimp only at nb q1
    by_cases hf : flatD d = true
    case neg => rw [if_neg hf] at nb; exact absurd rfl nb
    rw [if_pos hf] at q1
    obtain ⟨m1, e1, x1, w1⟩ := qv
    have ex : Ext m H m H' := ⟨⟨[], by simp⟩, fun a h => .inl h, fun a o _ => e1.keep a o (by simp)⟩
    have hx : SR K m H' S := ⟨x.nd, x.len, fun i a o h1 h2 => (x.at_ i a o h1 h2).ext ex x.muts (by
      have hm := x.mut (List.mem_of_getElem? h1)
      cases ho : H a with
      | none => rw [ho] at hm; exact absurd hm (fun z => z)
      | some ob => exact e1.keep a ob (by simp) ho)⟩
    refine q1 _ _ rfl v H' ⟨m, ex, hx, ?_⟩
    cases w1 with
    | non => exact .non
    | bl b => exact .bl b
    | int i => exact .int i
    | str s => exact .str s
    | _ => cases hf
  · intro C fs S' e
    rw [e] at nb
    exact absurd rfl nb
end MP

/-! loops and comprehensions in a form that the kernel can run -/
namespace MP
open PySem PySem.Spec PyProof.Rows L2
mutual
def beqD : D → D → Bool
  | .non, .non => true
  | .bl a, .bl b => decide (a = b)
  | .int a, .int b => decide (a = b)
  | .str a, .str b => decide (a = b)
  | .tup a, .tup b => beqDs a b
  | .ftup a, .ftup b => beqDs a b
  | .lst a, .lst b => beqDs a b
  | .dct t a, .dct u b => decide (t = u) && beqDk a b
  | .obj C a, .obj E b => decide (C = E) && beqDf a b
  | .exn C a, .exn E b => decide (C = E) && beqDf a b
  | .ref i, .ref j => decide (i = j)
  | _, _ => false
termination_by structural a => a
def beqDs : List D → List D → Bool
  | [], [] => true
  | a :: as, b :: bs => beqD a b && beqDs as bs
  | _, _ => false
termination_by structural a => a
def beqDk : List (D × D) → List (D × D) → Bool
  | [], [] => true
  | (k, a) :: as, (l, b) :: bs => beqD k l && (beqD a b && beqDk as bs)
  | _, _ => false
termination_by structural a => a
def beqDf : List (Str × D) → List (Str × D) → Bool
  | [], [] => true
  | (k, a) :: as, (l, b) :: bs => decide (k = l) && (beqD a b && beqDf as bs)
  | _, _ => false
termination_by structural a => a
end
structure ItsB where
  items : List D
  chk : Sto → Bool
abbrev LK := Ev → Sto → R ItsB
def toI (r : R ItsB) : R Its' := match r with
  | .ok it S => .ok ⟨it.items, fun S => it.chk S = true⟩ S
  | .exc C fs S => .exc C fs S
  | .bad => .bad
def toIL (k : LK) : LI := fun ρ S => toI (k ρ S)
def forK (ρ0 : Ev) (chk : Sto → Bool) (g : GT) (lb : LS) : List D → LS
  | [] => fun ρ S => if chk S = true then .ok (.nx ρ) S else .bad
  | d :: ds => fun ρ S => if chk S = true then (match g d ρ with
    | some ρ1 => (lb ρ1 S).bind (Fl.loop ρ0 (forK ρ0 chk g lb ds))
    | none => .bad) else .bad
def lForK (k : LK) (g : GT) (lb : LS) : LS := fun ρ S => liftX ρ (k ρ S) fun it S1 => forK ρ it.chk g lb it.items ρ S1
def compK (chk : Sto → Bool) (g : GT) (tt : LT) (te : LE) (ρ0 : Ev) : List D → Sto → R (List D)
  | [], S => if chk S = true then .ok [] S else .bad
  | d :: ds, S => if chk S = true then (match g d ρ0 with
    | some ρ1 => (noex (tt ρ1 S)).bind fun b S1 => if b = true then (noex (te ρ1 S1)).bind fun y S2 => (compK chk g tt te ρ0 ds S2).bind fun ys S3 => .ok (y :: ys) S3 else compK chk g tt te ρ0 ds S1
    | none => .bad) else .bad
def compLK (k : LK) (ix : List Nat) (g : GT) (tt : LT) (te : LE) : LA := fun ρ S => (k ρ S).bind fun it S1 => if it.items.length ≤ sizeLine then compK it.chk g tt te (wipeE ρ ix) it.items S1 else .bad
def lCompK (k : LK) (ix : List Nat) (g : GT) (tt : LT) (te : LE) : LE := fun ρ S => (compLK k ix g tt te ρ S).bind fun ys S2 => .ok (.lst ys) S2
/-! the iterables -/
def iterK (S : Sto) : D → Option ItsB
  | .lst xs => some ⟨xs, fun _ => true⟩
  | .tup xs => some ⟨xs, fun _ => true⟩
  | .ftup xs => some ⟨xs, fun _ => true⟩
  | .str z => some ⟨z.cps.toList.map fun c => .str ⟨#[c]⟩, fun _ => true⟩
  | .ref i => match S[i]? with
    | some (.lst xs) => some ⟨xs, fun S' => match S'[i]? with
      | some (.lst ys) => beqDs ys xs
      | _ => false⟩
    | _ => none
  | _ => none
def liftK (o : Option ItsB) (S : Sto) : R ItsB := match o with
  | some d => .ok d S
  | none => .bad
def lIterK (l : LE) : LK := fun ρ S => (l ρ S).bind fun d S1 => liftK (iterK S1 d) S1
def lEnumCK (c : Int) (t : LA) : LK := fun ρ S => (t ρ S).bind fun ds S1 => match ds with
  | [.lst xs] => .ok ⟨enumFD c xs, fun _ => true⟩ S1
  | _ => .bad
def lEnumK (t : LA) : LK := fun ρ S => (t ρ S).bind fun ds S1 => match ds with
  | [.lst xs] => .ok ⟨enumD xs, fun _ => true⟩ S1
  | _ => .bad
def lZipK (t : LA) : LK := fun ρ S => (t ρ S).bind fun ds S1 => match zipOf ds with
  | some items => .ok ⟨items, fun _ => true⟩ S1
  | none => .bad
end MP

/-! xs.pop(), d.pop(k), dict(d), list(d.items()) -/
namespace MP
open PySem PySem.Spec PyProof.Rows L2
section
variable {X : Cx}
theorem VRs.dropLast {K : PySem.W.Frag} {m : List Addr} {H : Hp} {vs : List V} {ds : List D} (r : VRs K m H vs ds) : VRs K m H vs.dropLast ds.dropLast := by
  rw [List.dropLast_eq_take, List.dropLast_eq_take, r.length]
  exact r.take _
def stPop : GM := fun S r ds => match r, ds with
  | .ref j, [] => match S[j]? with
    | some (.lst xs) => (xs[xs.length - 1]?).map fun y => (y, S.set j (.lst xs.dropLast))
    | _ => none
  | _, _ => none
theorem mtl_pop : MtL X "list.pop" stPop := ⟨fun pins s σ H m S S' x dx d xs ds v us I q r rs rv rvs e => by
  unfold stPop at e
  split at e
  · rename_i j
    split at e
    · rename_i l q1
      cases q3 : l[l.length - 1]? with
      | none => rw [q3] at e; cases e
      | some y =>
        rw [q3] at e
        cases e
        obtain ⟨a, rfl, ha, orr⟩ := VR.ref_at q r q1
        cases rs
        cases orr with
        | @lst vs _ hh rr =>
          obtain ⟨y', hy, ry⟩ := rr.getr q3
          obtain ⟨z1, z2⟩ := q.write (o' := .lst vs.dropLast) (ob' := .lst l.dropLast) ha fun e => .lst upd_same (rr.dropLast.ext e q.muts)
          exact thn (mt_pop pins s σ H (.ref a) [] v us (fun v' H' => v' = y' ∧ H' = upd H a (.lst vs.dropLast)) I rv rvs ⟨a, vs, y', rfl, rfl, hh, by rw [rr.length]; exact hy, rfl, rfl⟩) fun _ s' ⟨v', H', I', rv', ev, eH⟩ => by
            subst ev; subst eH
            exact ⟨_, _, m, I', rv', z1, z2, ry.ext z1 q.muts⟩
    · cases e
  · cases e⟩
theorem pel_pop {o : Expr} {lo : LE} {apos cpos : Pos} (ho : PEL X o lo)
    (hbase : attributeBase o "pop" X.env (eval o X.env) = eval o X.env := by rfl) (hline : (apos.endLine == cpos.line) = true := by rfl) : PEL X (.Call (.Attribute o "pop" apos) [] [] cpos) (lBM "list" stPop lo aNil) :=
  pel_bm0 PySem.F.plainAttrs_list PySem.F.slot_list_pop list_pop_ty mtl_pop ho hbase hline
/-- a dict without a key -/
def delK (kvs : List (D × D)) (k : Key) : List (D × D) := kvs.filter fun q => decide (kOf false q.1 ≠ some [k])
theorem VDk.del {K : PySem.W.Frag} {m : List Addr} {H : Hp} (k : Key) : ∀ {vs : List (Key × V)} {ds : List (D × D)}, VDk K m H vs ds → VDk K m H (dropK vs k) (delK ds k)
  | _, _, .nil => .nil
  | _, _, @VDk.cons _ _ _ k' v d vs ds h r => by
    unfold dropK delK
    by_cases e : k' = k
    · rw [List.filter_cons_of_neg (by simp [e]), List.filter_cons_of_neg (by simp [kf1, e])]
      exact r.del k
    · rw [List.filter_cons_of_pos (by simp [e]), List.filter_cons_of_pos (by simp [kf1, e])]
      exact .cons h (r.del k)
def stDpop : GM := fun S r ds => match r, ds with
  | .ref j, [y] => match S[j]?, keyOf y with
    | some (.dct false kvs), some k => (lookD false kvs [k]).map fun d => (d, S.set j (.dct false (delK kvs k)))
    | _, _ => none
  | _, _ => none
theorem mtl_dpop : MtL X "dict.pop" stDpop := ⟨fun pins s σ H m S S' x dx d xs ds v us I q r rs rv rvs e => by
  unfold stDpop at e
  split at e
  · rename_i j y
    split at e
    · rename_i kvs k q1 qk
      cases q3 : lookD false kvs [k] with
      | none => rw [q3] at e; cases e
      | some d' =>
        rw [q3] at e
        cases e
        obtain ⟨a, rfl, ha, orr⟩ := VR.ref_at q r q1
        obtain ⟨w, rfl, rw'⟩ := rs.one
        obtain rfl := rw'.key qk
        obtain ⟨u, rfl, ru⟩ := rvs.one
        cases orr with
        | @dct vs _ hh rr =>
          obtain ⟨y', hy, ry⟩ := (rr.look k).1 _ q3
          obtain ⟨z1, z2⟩ := q.write (o' := .dK (dropK vs k)) (ob' := .dct false (delK kvs k)) ha fun e => .dct upd_same ((rr.del k).ext e q.muts)
          obtain rfl : v = Value.ref a := rv
          exact d_pop I hh ru hy (.inl rfl) fun w' s' I' rw2 => ⟨y', _, m, I', rw2, z1, z2, ry.ext z1 q.muts⟩
    · cases e
  · cases e⟩
theorem dict_pop_ty : typeOf (.builtin "dict.pop") = (pure (.type "method_descriptor") : Sem Value) := PySem.F.type_dict_pop
theorem pel_dpop {o e : Expr} {lo : LE} {le : LE} {apos cpos : Pos} (ho : PEL X o lo) (he : PEL X e le)
    (hbase : attributeBase o "pop" X.env (eval o X.env) = eval o X.env := by rfl)
    (hfew : ((backTo cpos (starEach [e] X.env)).all (fun x => !x.1) && (backToKw cpos (keywordEach [] X.env)).all (fun x => x.1.isSome)
      && decide ([e].length + ([] : List Keyword).length + (if ([] : List Keyword).isEmpty then 0 else 1) < 30)) = true := by rfl)
    (hline : (apos.endLine == cpos.line) = true := by rfl) (hs : starEach [e] X.env = (false, eval e X.env) :: starEach [] X.env := by rfl) :
    PEL X (.Call (.Attribute o "pop" apos) [e] [] cpos) (lBM "dict" stDpop lo (aCons le aNil)) :=
  pel_bm PySem.F.plainAttrs_dict PySem.F.slot_dict_pop dict_pop_ty mtl_dpop ho (pal_cons he pal_nil hs) hbase hfew hline hs
/-- dict(d) into the store -/
def lDictC (t : LA) : LE := fun ρ S => (t ρ S).bind fun ds S1 => match ds with
  | [x] => match vw S1 x with
    | .dct false kvs => .ok (.ref S1.length) (S1 ++ [.dct false kvs])
    | _ => .bad
  | _ => .bad
theorem pel_dictC {e : Expr} {es : List Expr} {t : LA} {p pos : Pos} (hg : Gl X "dict") (hm : X.mg "dict" = none) (hv : bootBuiltins "dict" = some (.type "dict")) (ha : PAL X (e :: es) t)
    (he : starEach (e :: es) X.env = (false, eval e X.env) :: starEach es X.env := by rfl) (hpl : (backTo pos (starEach es X.env)).any (·.1) = false := by rfl) : PEL X (.Call (.Name "dict" p) (e :: es) [] pos) (lDictC t) := by
  refine ⟨fun pins s σ H m ρ S I x r hp => ?_⟩
  refine wpAny_Call_Name_kw (ld_blt I hg hm hv ?_ (by decide) (by decide))
  refine PyProof.Rows.callWith_type1 (run_seqA ha I x r hp fun ds S1 q1 vs us s1 H1 m1 I1 rv e1 x1 w1 r1 hp1 => ?_) he hpl
  split at hp1
  · rename_i y
    split at hp1
    · rename_i kvs qk
      have e0 : lDictC t ρ S = .ok (.ref S1.length) (S1 ++ [.dct false kvs]) := by
        unfold lDictC
        rw [q1, bind_ok]
        dsimp only
        rw [qk]
      rw [e0]
      obtain ⟨v, rfl, w⟩ := w1.one
      obtain ⟨u, rfl, ru⟩ := rv.one
      obtain ⟨a, rfl, ⟨_, ks, h1, r1⟩ | ⟨z, _⟩⟩ := vw_dct x1 w qk
      · obtain rfl : u = Value.ref a := ru
        refine d_copyOf I1 (.inl h1) fun l s2 hl I2 => ?_
        obtain ⟨e2, x2⟩ := x1.snoc (o := .dK ks) (ob := .dct false kvs) hl fun m' H' ex q => .dct q (VDk.ext ex x1.muts r1)
        exact (vpr_of ⟨.ref l, _, _, I2, rfl, e2, x2, .ref (by rw [← x1.len]; simp)⟩).left e1
      · cases z
    · exact absurd rfl hp1.1
  · exact absurd rfl hp1.1
/-- list(d.items()) -/
def lItemsL (l : LE) : LE := fun ρ S => (l ρ S).bind fun d S1 => match vw S1 d with
  | .dct false kvs => .ok (.lst (kvs.map fun q => D.tup [q.1, q.2])) S1
  | _ => .bad
theorem kv_vr {K : PySem.W.Frag} {m : List Addr} {H : Hp} (k : Key) : VR K m H (kV k) (keyD k) := by
  cases k with
  | inl i => exact .int i
  | inr s => exact .str s
theorem items_vrs {K : PySem.W.Frag} {m m' : List Addr} {H H' : Hp} (hx : ∀ {v : V} {d : D}, VR K m H v d → VR K m' H' v d) : ∀ {ts : List Addr} {ks : List (Key × V)} {kvs : List (D × D)}, VDk K m H ks kvs → Paired (fun (t : Addr) (q : Key × V) => H' t = some (.tup [kV q.1, q.2])) ts ks →
    VRs K m' H' (ts.map V.ref) (kvs.map fun q => D.tup [q.1, q.2])
  | _, _, _, .nil, .nil => .nil
  | _, _, _, .cons h r, .cons e p => .cons (.tup e (.cons (kv_vr _) (.cons (hx h) .nil))) (items_vrs hx r p)
theorem pel_itemsL {e : Expr} {l : LE} {p apos cpos pos : Pos} (hc : X.calm = true) (he : PEL X e l) (hg : Gl X "list") (hm : X.mg "list" = none) (hv : bootBuiltins "list" = some (.type "list"))
    (hbase : attributeBase e "items" X.env (eval e X.env) = eval e X.env := by rfl) (hline : (apos.endLine == cpos.line) = true := by rfl)
    (hs : starEach [.Call (.Attribute e "items" apos) [] [] cpos] X.env = (false, eval (.Call (.Attribute e "items" apos) [] [] cpos) X.env) :: starEach [] X.env := by rfl)
    (hx : ∀ ρ S C fs S', l ρ S ≠ .exc C fs S') :
    PEL X (.Call (.Name "list" p) [.Call (.Attribute e "items" apos) [] [] cpos] [] pos) (lItemsL l) :=
  .of_pe (LiI.pe_listItems hc he.pe hg hm hv hbase hline hs) fun σ H m ρ S x er hp => by
    unfold lItemsL at hp ⊢
    cases q : l ρ S with
    | bad => rw [q] at hp; exact absurd rfl hp.1
    | exc C fs S' => exact absurd q (hx _ _ _ _ _)
    | ok d S1 =>
      rw [q, bind_ok] at hp
      refine ⟨m, ρ, S, x, er, d, S1, q, fun v H1 ⟨m1, e1, x1, w1⟩ => ?_⟩
      split at hp
      · rename_i kvs qk
        obtain ⟨a, rfl, ⟨_, ks, h1, r1⟩ | ⟨z, _⟩⟩ := vw_dct x1 w1 qk
        · refine ⟨a, ks, rfl, h1, fun H' p2 ts k1 k2 k3 k4 k5 k6 => ⟨_, S1, by rw [bind_ok, qk], ?_⟩⟩
          have e2 : Ext m1 H1 m1 H' := ⟨⟨[], by simp⟩, fun a h => .inl h, fun a o _ h => k1 a o h⟩
          have x2 : SR X.K m1 H' S1 := ⟨x1.nd, x1.len, fun i b ob h1 h2 => (x1.at_ i b ob h1 h2).ext e2 x1.muts (by
            have mu := x1.mut (List.mem_of_getElem? h1)
            cases z : H1 b with
            | none => rw [z] at mu; exact mu.elim
            | some o => exact k1 b o z)⟩
          exact ⟨m1, e1.trans e2, x2, .lst (x1.nin k2) (.inl k5) (items_vrs (fun w => w.ext e2 x1.muts) r1 k6)⟩
        · cases z
      · exact absurd rfl hp.1
end
end MP

/-! raise C('m'), C an own class without an __init__; try .. except C: .. except D: .., no names (the road of L2.ps_try_many) -/
namespace MP
open PySem PySem.Spec PyProof.Rows L2
section
variable {X : Cx} {x m : Str} {C : Addr} {bmB : List Value} {B newId initId : String} {j : Nat} {p p2 pos pos' : Pos}
def lRaise1 (C : Addr) : LS := fun ρ S => .ok (.ex C [] ρ) S
theorem psl_raise1 (hc : X.calm = true) (F : ExcBaseFacts B newId initId bmB) (q : PySem.W.excIn X.K C bmB newId = true) (gC : X.mg x = some (.ref C)) (kC : PySem.W.keepIn X.K (.ref C) = true) (r : Raises X (.ref C)) (hg : Gl X x)
    (hdb : (x == ("__debug__" : Str)) = false := by decide) : PSL X (.Raise (some (.Call (.Name x p) [.Constant (.str m) j p2] [] pos)) none pos') (lRaise1 C) := by
  refine ⟨fun pins s σ H D I ⟨m0, ρ, S, x0, er, hl, h⟩ => ?_⟩
  exact (ps_raise (W := WS X.K m0 H C [] ρ S) hc (fun u s' z => h.ex C [] ρ S rfl u s' z) (pmk_own (m := m) F q gC kC r hg hdb)).run pins s σ H D I ⟨rfl, m0, .inr ⟨rfl, rfl⟩, Ext.refl, x0, er, hl⟩
end
abbrev TabX := Addr → Option Bool
def noX (fl : Fl) (S : Sto) : R Fl := match fl with
  | .ex _ _ _ => .bad
  | fl => .ok fl S
def goM (C : Addr) (fs : List (Str × D)) (ρ : Ev) (S : Sto) : List (TabX × LS) → R Fl
  | [] => .ok (.ex C fs ρ) S
  | (tab, ls) :: r => match tab C with
    | some true => (ls ρ S).bind noX
    | some false => goM C fs ρ S r
    | none => .bad
def catchM (l : List (TabX × LS)) (fl : Fl) (S : Sto) : R Fl := match fl with
  | .ex C fs ρ => goM C fs ρ S l
  | fl => .ok fl S
def lTryM (lb : LS) (l : List (TabX × LS)) : LS := fun ρ S => (lb ρ S).bind (catchM l)
inductive HdL (X : Cx) : List ExceptHandler → List (TabX × LS) → Prop
  | nil : HdL X [] []
  | cons {x : Str} {c : Value} {tab : TabX} {ls : LS} {b₀ : Stmt} {suite : List Stmt} {np pos' : Pos} {hds : List ExceptHandler} {l : List (TabX × LS)} (hc : Names X x c) (htab : ∀ C b, tab C = some b → PySem.W.exmOne X.K (.ref C) c = some b)
      (hsu : ∀ (a : Addr) (pn : List (Addr × Obj)), PSsL (X.suite a pn) (b₀ :: suite) ls) (r : HdL X hds l) :
      HdL X (.ExceptHandler (some (.Name x np)) none (b₀ :: suite) pos' :: hds) ((tab, ls) :: l)
section
variable {X : Cx} {body : List Stmt} {pos : Pos} {lb : LS} {h₀ : ExceptHandler} {hds : List ExceptHandler} {l : List (TabX × LS)}
theorem psl_tryM (hs : X.stack = X.env :: X.outer) (hf : X.env.frame = some X.env.locals) (hex : X.ex = [])
    (hb : ∀ (pn : List (Addr × Obj)) (xe : Value → Shared → Prop), PassesOwn (model X.prog X.w) X.A X.env xe → PSsL (X.tr pn xe) body lb)
    (hh : HdL X (h₀ :: hds) l) : PSL X (.Try body (h₀ :: hds) [] [] pos) (lTryM lb l) := by
  refine ⟨fun pins s σ H D I ⟨m, ρ, S, x0, er, hl, h⟩ => ?_⟩
  have ok := I.ok
  have hfr : X.A.frames = some (X.env :: X.outer) := by rw [ok.frames, hs]
  have hval : ∀ {fl : Fl} {S1 : Sto}, lb ρ S = .ok fl S1 → lTryM lb l ρ S = catchM l fl S1 := fun {fl S1} q => by
    unfold lTryM
    rw [q]
    rfl
  obtain ⟨fl0, S0, q0⟩ := h.ok
  obtain ⟨fl1, S1, q1, q2⟩ := bind_nbad q0
  refine wpAny_Try_except ?_
  refine wpAny_mono ((hb (X.pn ++ pins) (fun e s₁ => wpAny (model X.prog X.w) X.A (noteFrame e X.env) (fun _ s₂ => wpAny (model X.prog X.w) X.A (setFlight e none) (fun _ s₃ =>
    wpAny (model X.prog X.w) X.A (handleBy e X.env (h₀ :: hds)) (SP X pins D) X.xe s₃) X.xe s₂) X.xe s₁) PassesOwn.looking).run [] s σ H D (I.toTry _)
      ⟨m, ρ, S, x0, er, hl, ⟨⟨fl1, S1, q1⟩, fun ρ' S' q σ' H' z => h.nx ρ' S' ((hval q).trans rfl) σ' H' z, fun d S' q v H' z => h.rt d S' ((hval q).trans rfl) v H' z, fun ρ' S' q σ' H' z => h.bk ρ' S' ((hval q).trans rfl) σ' H' z, fun ρ' S' q σ' H' z => h.ct ρ' S' ((hval q).trans rfl) σ' H' z, ?_⟩⟩) (fun f s1 hsp => ?_) (fun e s1 he => he)
  · intro C fs ρ' S' q u s' xx
    have hv := hval q
    obtain ⟨a, B, sI, pins', σ', H', cls, dE, rfl, J', nb, up, sky, na, os, ag, wc, m', wd, e', x', er', hl'⟩ := xx
    subst wc
    have J : Inv X pins σ' H' sI := J'.ofTry ok
    have sky' : Sky B (X.env :: X.outer) a (Zc (.ref C) dE) X.env.locals s'.heap := by rw [← hs]; exact sky
    show wpAny (model X.prog X.w) X.A (noteFrame (.ref a) X.env) _ _ _
    refine Sky.land Zc.steady hfr hf sky' fun h3 fl3 up3 => ?_
    have J3 : Inv X pins σ' H' { s' with heap := h3 } := J.landed nb fl3.1 (up.trans up3) os ag
    obtain ⟨oe3, vs3, he3, hz3, hd3⟩ := fl3.there
    have notFr : ∀ {h : Heap} {o : Obj} {vs : Array Value}, h.FunFrames B (X.env :: X.outer) → h.get? a = some o → o.data = .fields vs → a ∉ frs (X.env :: X.outer) := fun {h o vs} ff e dd hm => by
      obtain ⟨_, o', e', hnf⟩ := ff.mem hm
      rw [e] at e'; cases e'
      exact hnf _ dd
    have nfr := notFr fl3.2.2.1 he3 hd3
    have nL : a ≠ X.env.locals := fun z => nfr (List.mem_filterMap.mpr ⟨X.env, List.mem_cons_self, by rw [hf, z]⟩)
    have nF : a ∉ X.fs := fun hm => by
      obtain ⟨e, he, q⟩ := List.mem_filterMap.mp hm
      exact nfr (List.mem_filterMap.mpr ⟨e, List.mem_cons_of_mem _ he, q⟩)
    have S3 := J3.suite he3 hd3 na nL nF
    have go : ∀ {hds' : List ExceptHandler} {l' : List (TabX × LS)}, HdL X hds' l' → HS X D m H (goM C fs ρ' S' l') →
        wpAny (model X.prog X.w) X.A (handleBy (.ref a) X.env hds') (SP X pins D) X.xe { s' with heap := h3 } := by
      intro hds' l' hk
      induction hk with
      | nil =>
        intro w
        refine wpAny_handleBy_nil ?_
        obtain ⟨k1, k2, k3, oe, vs, T, oT, ts', he, hz, hd, h1, hr⟩ := id fl3
        unfold PySem.passOn
        refine wpAny_bind (wpAny_field he hd h1 ?_)
        rw [if_neg (show ¬ ((Value.ref T == Value.none) = true) from by simp)]
        have fin : wpAny (model X.prog X.w) X.A (setFlight (.ref a) X.env.frame) (fun _ s4 => wpAny (model X.prog X.w) X.A (throw (.ref a) : Sem Flow) (SP X pins D) X.xe s4) X.xe { s' with heap := h3 } := by
          rw [hf]
          refine HandSPX.setFlight_upZ fl3 fun h4 hh4 up4 => wpAny_throw (w.ex C fs ρ' S' rfl _ _ ?_)
          exact ⟨a, B, sI, pins, σ', H', .ref C, dE, rfl, J, nb, (up.trans up3).trans up4, .inr (.inr (by rw [hs]; exact hh4)), na, os, ag, rfl, m', wd, e', x', er', hl'⟩
        first
          | exact wpAny_bind (wpAny_pure (wpAny_bind fin))
          | exact wpAny_bind fin
      | @cons x c tab ls b₀ suite np pos' hds2 l2 hc htab hsu r ih =>
        intro w
        refine wpAny_handleBy_cons (codeAny_handlers_test ?_) (by intro q; cases q)
        have LT : PySem.W.Looks (model X.prog X.w) h3 (typeOf (.ref a)) (.ref C) := fun A Q E s k q => wpAny_typeOf_ref (k _ _ he3) (by rw [hz3.1]; exact q)
        unfold goM at w
        cases hb1 : tab C with
        | none =>
          rw [hb1] at w
          obtain ⟨f2, S2, z⟩ := w.ok
          cases z
        | some b =>
        rw [hb1] at w
        have LM := PySem.W.exm_one (M := model X.prog X.w) (J3.kIn) LT (htab C b hb1)
        have test : ∀ {Q : Value → Shared → Prop} {E : Value → Shared → Prop}, Q c { s' with heap := h3 } → wpAny (model X.prog X.w) (X.A.mark (some (.ref a))) (eval (.Name x np) X.env) Q E { s' with heap := h3 } := fun {Q E} q => by
          obtain ⟨hg, hdbg, hm | ⟨hm, hv, hnn⟩⟩ := hc
          · exact ld_glob (X := X.suite a ((a, oe3) :: (X.pn ++ pins))) S3 hg hm q hdbg
          · exact ld_blt (X := X.suite a ((a, oe3) :: (X.pn ++ pins))) S3 hg hm hv q hnn hdbg
        refine test (LM.here ?_)
        cases b with
        | true =>
          dsimp only at w
          refine codeAny_handlers_suite ?_
          refine HandSPX.lands_againZ fl3 fun h4 fl4 up4 => ?_
          have J4 : Inv X pins σ' H' { s' with heap := h4 } := J.landed nb fl4.1 ((up.trans up3).trans up4) os ag
          obtain ⟨oe4, vs4, he4, hz4, hd4⟩ := fl4.there
          have S4 := J4.suite he4 hd4 na nL nF
          obtain ⟨f3, S3', q3⟩ := w.ok
          obtain ⟨f4, S4', q4, q5⟩ := bind_nbad q3
          have hend : ∀ {fl : Fl} {S2 : Sto}, ls ρ' S' = .ok fl S2 → (ls ρ' S').bind noX = noX fl S2 := fun {fl S2} q => by rw [q]; rfl
          refine wpAny_mono ((hsu a ((a, oe4) :: (X.pn ++ pins))).run [] _ σ' H' D S4
            ⟨m', ρ', S', x', er', hl', ⟨⟨f4, S4', q4⟩, fun ρ2 S2 q σ6 H6 z => ?_, fun d2 S2 q v6 H6 z => ?_, fun ρ2 S2 q σ6 H6 z => ?_, fun ρ2 S2 q σ6 H6 z => ?_, fun C2 fs2 ρ2 S2 q u2 s2 z => ?_⟩⟩) (fun f s6 hsp => ?_) (fun _ _ z => False.elim z)
          · exact w.nx ρ2 S2 (hend q) _ _ (z.left e')
          · exact w.rt d2 S2 (hend q) _ _ (z.left e')
          · exact w.bk ρ2 S2 (hend q) _ _ (z.left e')
          · exact w.ct ρ2 S2 (hend q) _ _ (z.left e')
          · rw [hend q] at q3
            cases q3
          cases f with
          | next =>
            obtain ⟨σ6, H6, S6, q6⟩ := hsp
            exact ⟨_, _, S6.unsuite ok, q6⟩
          | brk =>
            obtain ⟨σ6, H6, S6, q6⟩ := hsp
            exact ⟨_, _, S6.unsuite ok, q6⟩
          | cont =>
            obtain ⟨σ6, H6, S6, q6⟩ := hsp
            exact ⟨_, _, S6.unsuite ok, q6⟩
          | ret u =>
            obtain ⟨v6, σ6, H6, S6, r6, q6⟩ := hsp
            exact ⟨_, _, _, S6.unsuite ok, r6, q6⟩
        | false =>
          show wpAny _ X.A (handleBy (.ref a) X.env hds2) _ _ _
          exact ih w
    rw [hv] at h
    exact go hh h
  · cases f with
    | next =>
      obtain ⟨σ', H', J', q⟩ := hsp
      exact wpAny_execs_nil ⟨σ', H', J'.ofTry ok, q⟩
    | brk =>
      obtain ⟨σ', H', J', q⟩ := hsp
      exact ⟨σ', H', J'.ofTry ok, q⟩
    | cont =>
      obtain ⟨σ', H', J', q⟩ := hsp
      exact ⟨σ', H', J'.ofTry ok, q⟩
    | ret u =>
      obtain ⟨v, σ', H', J', r, q⟩ := hsp
      exact ⟨v, σ', H', J'.ofTry ok, r, q⟩
end
end MP

/-! x in data; a list and a list, into the store; a pair of a dict and a list told apart from ({}, []); three fields as targets; frozen tuples put on -/
namespace MP
open PySem PySem.Spec PyProof.Rows L2
section
variable {X : Cx}
def inP (S : Sto) (x y : D) : Option Bool := (toPD (vw S x)).bind fun a => (toPD (vw S y)).bind fun b => match b with
  | .list bs => if SeqAt.shaped a = true ∧ SeqAt.shaped (.list bs) = true then some (bs.any fun z => PyData.eqv z a) else none
  | .tuple bs => if SeqAt.shaped a = true ∧ SeqAt.shaped (.tuple bs) = true then some (bs.any fun z => PyData.eqv z a) else none
  | _ => none
def gInD : G2 := fun S x y => (inP S x y).map .bl
def gNotInD : G2 := fun S x y => (inP S x y).map fun b => .bl (!b)
theorem inP_inv {S : Sto} {x y : D} {b : Bool} (h : inP S x y = some b) : ∃ p q bs, toPD (vw S x) = some p ∧ toPD (vw S y) = some q ∧ (q = .list bs ∨ q = .tuple bs) ∧ SeqAt.shaped p = true ∧ SeqAt.shaped q = true ∧ (bs.any fun z => PyData.eqv z p) = b := by
  unfold inP at h
  cases q1 : toPD (vw S x) with
  | none => rw [q1] at h; cases h
  | some p =>
    rw [q1] at h
    cases q2 : toPD (vw S y) with
    | none => rw [q2] at h; cases h
    | some q =>
      rw [q2] at h
      dsimp only [Option.bind] at h
      split at h
      · rename_i bs
        split at h
        · rename_i hz
          exact ⟨p, _, bs, rfl, rfl, .inl rfl, hz.1, hz.2, Option.some.inj h⟩
        · cases h
      · rename_i bs
        split at h
        · rename_i hz
          exact ⟨p, _, bs, rfl, rfl, .inr rfl, hz.1, hz.2, Option.some.inj h⟩
        · cases h
      · cases h
theorem opl_inD (hu : X.A.units + 65 < cLine) : OpL X (compareOp .In) gInD := ⟨fun pins s σ H m S x y dx dy d v u I q rx ry ex ey e => by
  unfold gInD at e
  cases q0 : inP S dx dy with
  | none => rw [q0] at e; cases e
  | some b =>
    rw [q0] at e
    cases e
    obtain ⟨p, p2, bs, h1, h2, h3, h4, h5, h6⟩ := inP_inv q0
    subst h6
    obtain ⟨as, r1⟩ := Dp.reads I _ _ _ (rx.dpv q h1) ex
    obtain ⟨as2, r2⟩ := Dp.reads I _ _ _ (ry.dpv q h2) ey
    rcases h3 with rfl | rfl
    · exact SeqAt.in_list_reads r2 r1 (SeqAt.canLay_of_shaped h5) (SeqAt.canLay_of_shaped h4) (room_in_shaped h4 hu) ⟨.bl _, H, m, I, rfl, Ext.refl, q, .bl _⟩
    · exact SeqAt.in_tuple_reads r2 r1 (SeqAt.canLay_of_shaped h5) (SeqAt.canLay_of_shaped h4) (room_in_shaped h4 hu) ⟨.bl _, H, m, I, rfl, Ext.refl, q, .bl _⟩⟩
theorem opl_notInD (hu : X.A.units + 65 < cLine) : OpL X (compareOp .NotIn) gNotInD := ⟨fun pins s σ H m S x y dx dy d v u I q rx ry ex ey e => by
  unfold gNotInD at e
  cases q0 : inP S dx dy with
  | none => rw [q0] at e; cases e
  | some b =>
    rw [q0] at e
    cases e
    obtain ⟨p, p2, bs, h1, h2, h3, h4, h5, h6⟩ := inP_inv q0
    subst h6
    obtain ⟨as, r1⟩ := Dp.reads I _ _ _ (rx.dpv q h1) ex
    obtain ⟨as2, r2⟩ := Dp.reads I _ _ _ (ry.dpv q h2) ey
    rcases h3 with rfl | rfl
    · exact SeqAt.notIn_list_reads r2 r1 (SeqAt.canLay_of_shaped h5) (SeqAt.canLay_of_shaped h4) (room_in_shaped h4 hu) ⟨.bl _, H, m, I, rfl, Ext.refl, q, .bl _⟩
    · exact SeqAt.notIn_tuple_reads r2 r1 (SeqAt.canLay_of_shaped h5) (SeqAt.canLay_of_shaped h4) (room_in_shaped h4 hu) ⟨.bl _, H, m, I, rfl, Ext.refl, q, .bl _⟩⟩
/-- frozen or not: the tuple's items -/
def tupOf : D → Option (List D)
  | .tup xs => some xs
  | .ftup xs => some xs
  | _ => none
def gCatF : G2 := fun S x y => match x, y with
  | .ftup a, .tup b => if b ≠ [] ∧ a.length + b.length ≤ 100000 then some (.tup (a ++ b)) else none
  | _, _ => none
theorem opl_catF : OpL X (binaryOp .Add) gCatF := .of op_catA fun H m S x y dx dy d q rx ry e => by
  unfold gCatF at e
  split at e
  · rename_i i j
    split at e
    · rename_i hz
      cases e
      obtain ⟨a, xs, o, rfl, _, ha, r1⟩ := vw_ftup (S := S) rx rfl
      obtain ⟨b, ys, rfl, hb, r2⟩ := vw_tup (S := S) ry rfl
      refine ⟨a, b, xs, ys, rfl, rfl, SqT.rd (.inr ⟨o, ha⟩), SqT.of hb, by rw [r1.length, r2.length]; exact Nat.le_trans hz.2 (by decide), ?_⟩
      refine ⟨fun z => ?_, fun z z' => ?_, fun z z' p hp => ?_⟩
      · have z1 := r1.nil_iff.mp z
        subst z1
        exact qv_same q (.tup hb (by simpa using r2))
      · exact absurd (r2.nil_iff.mp z') hz.1
      · exact qv_new q hp (vr_newTup q hp (r1.append r2))
    · cases e
  · cases e
def gAdd3 : G2 := fun S x y => (gAdd2 S x y).or (gCatF S x y)
theorem opl_add3 : OpL X (binaryOp .Add) gAdd3 := opl_add2.or opl_catF
/-! ### a list and a list, into the store -/
structure OpN (X : Cx) (f : Value → Value → Sem Value) (g : Sto → D → D → Option (List D)) : Prop where
  run : ∀ (pins : List (Addr × Obj)) (s : Shared) (σ : L2.St) (H : Hp) (m : List Addr) (S : Sto) (x y : V) (dx dy : D) (ds : List D) (v u : Value), Inv X pins σ H s → SR X.K m H S → VR X.K m H x dx → VR X.K m H y dy → RelV x v → RelV y u → g S dx dy = some ds →
    wpAny (model X.prog X.w) X.A (f v u) (VP X pins σ m H (.ref S.length) (S ++ [.lst ds])) X.xe s
def gCatN : Sto → D → D → Option (List D) := fun S x y => match vw S x, vw S y with
  | .lst a, .lst b => if a.length + b.length ≤ sizeLine then some (a ++ b) else none
  | _, _ => none
theorem opn_cat : OpN X (binaryOp .Add) gCatN := ⟨fun pins s σ H m S x y dx dy ds v u I q rx ry ex ey e => by
  unfold gCatN at e
  split at e
  · rename_i i j e1 e2
    split at e
    · rename_i hz
      cases e
      obtain ⟨a, xs, rfl, ha, r1⟩ := vw_lst q rx e1
      obtain ⟨b, ys, rfl, hb, r2⟩ := vw_lst q ry e2
      obtain rfl : v = Value.ref a := ex
      obtain rfl : u = Value.ref b := ey
      obtain ⟨its, rv, ⟨o, n, h1, h2, hn, h3⟩, hz1⟩ := I.list ha
      obtain ⟨its2, rv2, ⟨o2, n2, g1, g2, gn, g3⟩, hz2⟩ := I.list hb
      have hl : its.length + its2.length ≤ sizeLine := by rw [← rv.length, ← rv2.length, r1.length, r2.length]; exact hz
      refine concat_meets ⟨_, h1, h2⟩ ⟨_, g1, g2⟩ noFill_list_add seq_list_add F.slot_list_add F.entry_list_add (F.args_list_add_2 _ _) (list_add_any a o its.toArray n b o2 its2.toArray n2 (by rw [List.size_toArray, List.size_toArray]; exact hl)) ⟨h1, h3, g1, g2, g3, ?_⟩
      have ea : its.toArray ++ its2.toArray = (its ++ its2).toArray := by simp
      rw [ea]
      have hf : H s.heap.objs.size = none := I.hok.fresh (Nat.le_refl _)
      have hl2 : (xs ++ ys).length ≤ sizeLine := by rw [List.length_append, r1.length, r2.length]; exact hz
      obtain ⟨m', e', x', w'⟩ := qv_newL q hf (r1.append r2)
      exact ⟨.ref s.heap.objs.size, upd H s.heap.objs.size (.lst (xs ++ ys)), m', I.laid (t' := s.toks) (fun b u e => Heap.get?_push_of_some _ e) (Nat.le_refl _) ⟨hl2, its ++ its2, 0, rv.append rv2, Heap.get?_push_size _ rfl⟩, rfl, e', x', w'⟩
    · cases e
  · cases e⟩
def lBinN (g : Sto → D → D → Option (List D)) (la lb : LE) : LE := fun ρ S => (la ρ S).bind fun x S1 => (lb ρ S1).bind fun y S2 => match g S2 x y with
  | some ds => .ok (.ref S2.length) (S2 ++ [.lst ds])
  | none => .bad
theorem pel_opN {a b : Expr} {la lb : LE} {pos : Pos} {op : Operator} {g : Sto → D → D → Option (List D)} (ho : OpN X (binaryOp op) g) (ha : PEL X a la) (hb : PEL X b lb) : PEL X (.BinOp a op b pos) (lBinN g la lb) := by
  refine ⟨fun pins s σ H m ρ S I x r hp => ?_⟩
  refine wpAny_BinOp (run_seq ha I x r hp fun dx S1 q1 v u s1 H1 m1 I1 rv e1 x1 w1 r1 hp1 => ?_)
  refine run_seq hb I1 x1 r1 hp1 fun dy S2 q2 v2 u2 s2 H2 m2 I2 rv2 e2 x2 w2 r2 hp2 => ?_
  cases q3 : g S2 dx dy with
  | none => rw [q3] at hp2; exact absurd rfl hp2.1
  | some ds =>
    have e0 : lBinN g la lb ρ S = .ok (.ref S2.length) (S2 ++ [.lst ds]) := by unfold lBinN; rw [q1, bind_ok, q2, bind_ok, q3]
    rw [e0]
    exact thn (ho.run pins s2 σ H2 m2 S2 v v2 dx dy ds u u2 I2 x2 (w1.ext e2 x1.muts) w2 rv rv2 q3) fun _ _ z => (vpr_of z).left (e1.trans e2)
/-! ### a pair of a dict and a list, told apart from ({}, []) -/
def gEqDL : G2 := fun _ x y => match x, y with
  | .tup [.dct false kvs, .lst ps], .tup [.dct false [], .lst []] => some (.bl (kvs.isEmpty && ps.isEmpty))
  | _, _ => none
theorem opl_eqDL (hu : X.A.units + 65 < cLine) : OpL X (compareOp .Eq) gEqDL := ⟨fun pins s σ H m S x y dx dy d v u I q rx ry ex ey e => by
  unfold gEqDL at e
  split at e
  · rename_i kvs ps
    cases e
    cases rx with
    | @tup a vs _ ha ra =>
      cases ry with
      | @tup b ws _ hb rb =>
        cases ra with
        | @cons v1 _ vs1 _ w1 ra =>
          cases ra with
          | @cons v2 _ vs2 _ w2 ra =>
            cases ra
            cases rb with
            | @cons u1 _ ws1 _ z1 rb =>
              cases rb with
              | @cons u2 _ ws2 _ z2 rb =>
                cases rb
                obtain rfl : v = Value.ref a := ex
                obtain rfl : u = Value.ref b := ey
                cases w1 with
                | @dct da ks _ nd hd rd =>
                  cases z1 with
                  | @dct db ls _ nd2 hd2 rd2 =>
                    cases rd2
                    obtain ⟨la, xs, rfl, hl1, rl1⟩ := vw_lst (S := S) q w2 rfl
                    obtain ⟨lb, ys, rfl, hl2, rl2⟩ := vw_lst (S := S) q z2 rfl
                    cases rl2
                    obtain ⟨zz, s1, vd, kv, dd⟩ := dk_of I.hok hd
                    obtain ⟨zz2, s2, vd2, kv2, dd2⟩ := dk_of I.hok hd2
                    cases kv2
                    obtain ⟨its, rvs, ⟨o, n, h1, h2, hn, h3⟩, hz1⟩ := I.list hl1
                    obtain ⟨its2, rvs2, ⟨o2, n2, g1, g2, gn, g3⟩, hz2⟩ := I.list hl2
                    cases rvs2
                    obtain ⟨tit, rt, pt, _⟩ := I.tuple (SqT.of ha)
                    obtain ⟨tit2, rt2, pt2, _⟩ := I.tuple (SqT.of hb)
                    obtain ⟨t0, rfl, e0⟩ : ∃ t0, tit = [Value.ref da, t0] ∧ t0 = Value.ref la := by
                      cases rt with
                      | cons r1 rt =>
                        cases rt with
                        | cons r2 rt => cases rt; cases r1; cases r2; exact ⟨_, rfl, rfl⟩
                    obtain ⟨t1, rfl, e1⟩ : ∃ t0, tit2 = [Value.ref db, t0] ∧ t0 = Value.ref lb := by
                      cases rt2 with
                      | cons r1 rt =>
                        cases rt with
                        | cons r2 rt => cases rt; cases r1; cases r2; exact ⟨_, rfl, rfl⟩
                    subst e0 e1
                    have lk : vd.length = kvs.length := by rw [← kv.length, rd.length]
                    have T1 : PySem.W.EqTree X.prog X.w s 1 (.ref da) (.ref db) kvs.isEmpty := by
                      by_cases hab : da = db
                      · subst hab
                        rw [hd] at hd2
                        cases hd2
                        cases rd
                        exact .same
                      · have z := PySem.W.EqTree.dicts (n := 0) (e := fun _ => true) hab s1 s2 dd dd2 (fun k v y _ hv => by cases hv)
                        have e : (vd.length == ([] : List (Key × Value)).length && vd.all fun p => (valueAt ([] : List (Key × Value)) p.1).isSome && true) = kvs.isEmpty := by
                          cases kvs with
                          | nil => cases vd with
                            | nil => rfl
                            | cons _ _ => simp at lk
                          | cons _ _ => cases vd with
                            | nil => simp at lk
                            | cons _ _ => rfl
                        rw [e] at z
                        exact z
                    have ll : its.length = ps.length := by rw [← rvs.length, rl1.length]
                    have T2 : PySem.W.EqTree X.prog X.w s 1 (.ref la) (.ref lb) ps.isEmpty := by
                      by_cases hab : la = lb
                      · subst hab
                        rw [h1] at g1
                        cases g1
                        rw [h3] at g3
                        have : its = [] := by
                          have := congrArg (fun d => match d with | Data.seq a _ => a.toList | _ => []) g3
                          simpa using this
                        subst this
                        cases ps with
                        | nil => exact .same
                        | cons _ _ => simp at ll
                      · cases ps with
                        | nil =>
                          obtain rfl : its = [] := List.length_eq_zero_iff.mp ll
                          have z := PySem.W.EqTree.lists (prog := X.prog) (w := X.w) (n := 0) (e := fun _ => true) hab ⟨o, h1, h2, n, h3⟩ ⟨o2, g1, g2, n2, g3⟩ rfl (fun j h1 _ => absurd h1 (by simp))
                          exact z
                        | cons _ _ => exact PySem.W.EqTree.listsLen hab ⟨o, h1, h2, n, h3⟩ ⟨o2, g1, g2, n2, g3⟩ (by simp [ll])
                    refine PySem.W.eq_tuplesT (n := 1) (e := fun j => if j = 0 then kvs.isEmpty else ps.isEmpty) pt pt2 (fun j h1 h2 => ?_) (by omega) ⟨.bl (kvs.isEmpty && ps.isEmpty), H, m, I, ?_, Ext.refl, q, .bl _⟩
                    · match j, h1, h2 with
                      | 0, _, _ => exact T1
                      | 1, _, _ => exact T2
                    · show Value.bool _ = Value.bool _
                      have : (List.range (min (#[Value.ref da, Value.ref la]).size (#[Value.ref db, Value.ref lb]).size)) = [0, 1] := rfl
                      show Value.bool (((List.range (min (#[Value.ref da, Value.ref la]).size (#[Value.ref db, Value.ref lb]).size)).all fun j => if j = 0 then kvs.isEmpty else ps.isEmpty) && true) = _
                      rw [this]
                      simp
  · cases e⟩
end
end MP

/-! a.f, a.g, a.h = e -/
namespace MP
open PySem PySem.Spec PyProof.Rows L2
section
variable {K : PySem.W.Frag} {m : List Addr} {H : Hp} {S S3 : Sto}
theorem step_fld {vk vc : V} {c : D} {r : Nat} {C : Addr} {f : Str} (x1 : SR K m H S) (wk : VR K m H vk (.ref r)) (wc : VR K m H vc c) (q3 : stFld C f S (.ref r) c = some S3) :
    ∃ a0 dx fs', vk = .ref a0 ∧ H a0 = some (.ins C dx fs') ∧ fs'.length < 1000 ∧ Ext m H m (upd H a0 (.ins C dx (putF f vc fs'))) ∧ SR K m (upd H a0 (.ins C dx (putF f vc fs'))) S3 := by
  unfold stFld at q3
  dsimp only at q3
  split at q3
  · rename_i C' fs q4
    split at q3
    · rename_i hz0
      obtain ⟨hC, hz0⟩ := hz0
      subst hC
      cases q3
      obtain ⟨a0, rfl, ha, orr⟩ := VR.ref_at x1 wk q4
      cases orr with
      | @ins _ dx fs' gs hh rr =>
        obtain ⟨e3, x3⟩ := x1.write (o' := .ins C' dx (putF f vc fs')) (ob' := .ins C' (putD f c fs)) ha fun e => .ins upd_same ((rr.put wc).ext e x1.muts)
        exact ⟨a0, dx, fs', rfl, hh, by rw [rr.length]; exact hz0, e3, x3⟩
    · cases q3
  · cases q3
end
section
variable {X : Cx} {e : Expr} {le : LE} {z f1 f2 f3 : Str} {pos p1 p2 p3 a1 a2 a3 tp : Pos} {kk : Nat} {C : Addr}
def lAsg3A (k : Nat) (C : Addr) (f1 f2 f3 : Str) (le : LE) : LS := fun ρ S => liftX ρ (le ρ S) fun d S1 => match d with
  | .tup [a, b, c] => match ρ[k]? with
    | some (some (.ref r)) => match stFld C f1 S1 (.ref r) a with
      | some S2 => match stFld C f2 S2 (.ref r) b with
        | some S3 => liftS (stFld C f3 S3 (.ref r) c) ρ
        | none => .bad
      | none => .bad
    | _ => .bad
  | _ => .bad
theorem psl_asg3A {k : Nat} (hc : X.calm = true) (cl : Cls X.K C) (n1 : NoAttr X.K C f1) (n2 : NoAttr X.K C f2) (n3 : NoAttr X.K C f3) (he : PEL X e le) (hk : X.N[k]? = some z) (hz : Vis X.env.scope z)
    (hs : swapsWithSole [.Tuple [.Attribute (.Name z p1) f1 a1, .Attribute (.Name z p2) f2 a2, .Attribute (.Name z p3) f3 a3] kk tp] e pos.line X.env = pure false) (hw : swappedStores [.Tuple [.Attribute (.Name z p1) f1 a1, .Attribute (.Name z p2) f2 a2, .Attribute (.Name z p3) f3 a3] kk tp] e X.env = pure none)
    (hdb : (z == ("__debug__" : Str)) = false) (hcd : (z == ("__classdict__" : Str)) = false) :
    PSL X (.Assign [.Tuple [.Attribute (.Name z p1) f1 a1, .Attribute (.Name z p2) f2 a2, .Attribute (.Name z p3) f3 a3] kk tp] e pos) (lAsg3A k C f1 f2 f3 le) := by
  refine ⟨fun pins s σ H D I ⟨m, ρ, S, x0, er, hl, h⟩ => ?_⟩
  refine wpAny_Assign_stores (expr_in he I x0 er hl h fun d S1 q v u s1 H1 m1 I1 rv e1 x1 w er1 h2 => ?_) hs hw
  have h1 : (assignEach [.Tuple [.Attribute (.Name z p1) f1 a1, .Attribute (.Name z p2) f2 a2, .Attribute (.Name z p3) f3 a3] kk tp] X.env).map (·.2) = [assign (.Tuple [.Attribute (.Name z p1) f1 a1, .Attribute (.Name z p2) f2 a2, .Attribute (.Name z p3) f3 a3] kk tp) X.env] := rfl
  rw [h1]
  obtain ⟨fl, S', ok⟩ := h2.ok
  split at ok
  · rename_i a b c
    split at ok
    · rename_i r hr
      have hg := pg_tup (k := kk) (pos := tp) hc (pgs_cons (pg_attr (p := p1) (ap := a1) (f := f1) hk hz hdb hcd) (pgs_cons (pg_attr (p := p2) (ap := a2) (f := f2) hk hz hdb hcd) (pgs_cons (pg_attr (p := p3) (ap := a3) (f := f3) hk hz hdb hcd) pgs_nil)))
      refine thn (hg.run pins s1 σ H1 v u (fun σ' H' => D.nx σ' H') I1 rv ?_) fun _ s2 q => q
      dsimp only at h2
      rw [hr] at h2
      dsimp only at h2
      cases w with
      | @tup p vs ds hp rs =>
        cases rs with
        | @cons va _ vs1 _ wa rs =>
          cases rs with
          | @cons vb _ vs2 _ wb rs =>
            cases rs with
            | @cons vc _ vs3 _ wc rs =>
              cases rs
              obtain ⟨vk, hvk, wk⟩ := er1.at_ k _ hr
              cases q3 : stFld C f1 S1 (.ref r) a with
              | none => rw [q3] at h2; obtain ⟨fl, S', q⟩ := h2.ok; cases q
              | some S2 =>
                rw [q3] at h2
                dsimp only at h2
                obtain ⟨a0, dx, fs1, rfl, hh1, l1, e2, x2⟩ := step_fld x1 wk wa q3
                cases q4 : stFld C f2 S2 (.ref r) b with
                | none => rw [q4] at h2; obtain ⟨fl, S', q⟩ := h2.ok; cases q
                | some S3 =>
                  rw [q4] at h2
                  dsimp only at h2
                  obtain ⟨b0, dx2, fs2, eb, hh2, l2, e3, x3⟩ := step_fld x2 (wk.ext e2 x1.muts) (wb.ext e2 x1.muts) q4
                  cases eb
                  cases q5 : stFld C f3 S3 (.ref r) c with
                  | none => rw [q5] at h2; obtain ⟨fl, S', q⟩ := h2.ok; cases q
                  | some S4 =>
                    rw [q5] at h2
                    obtain ⟨c0, dx3, fs3, ec, hh3, l3, e4, x4⟩ := step_fld x3 ((wk.ext e2 x1.muts).ext e3 x2.muts) ((wc.ext e2 x1.muts).ext e3 x2.muts) q5
                    cases ec
                    refine ⟨p, [va, vb, vc], rfl, SqT.of hp, rfl, va, _, rfl, a0, C, dx, fs1, hvk, hh1, cl, n1, l1, vb, _, rfl, a0, C, dx2, fs2, hvk, hh2, cl, n2, l2, vc, _, rfl, a0, C, dx3, fs3, hvk, hh3, cl, n3, l3, rfl, ?_⟩
                    exact h2.nx _ _ rfl _ _ ⟨m1, (e2.trans e3).trans e4, x4, ((er1.ext e2 x1.muts).ext e3 x2.muts).ext e4 x3.muts, hl⟩
    · cases ok
  · cases ok
end
end MP
namespace MP
open PySem PySem.Spec PyProof.Rows L2
theorem Room.units65 {k : Nat} {A : Around} (r : MP.Room k A) : A.units + 65 < cLine := by
  have := r.r.un
  omega
theorem noexc_ix {g : G2} {i : Nat} {d : D} {ρ : Ev} {S S' : Sto} {C : Addr} {fs : List (Str × D)} (h : lBin g (lVar i) (lC d) ρ S = .exc C fs S') : False := by
  unfold lBin lVar at h
  cases q : ρ[i]? with
  | none => rw [q] at h; cases h
  | some o =>
    rw [q] at h
    cases o with
    | none => cases h
    | some x =>
      change lift1 (g S x d) S = _ at h
      cases q2 : g S x d with
      | none => rw [q2] at h; cases h
      | some y => rw [q2] at h; cases h
end MP

/-! sorted(a tuple) -/
namespace PySem.W
open PySem PySem.Calls PyProof.Rows PyProof.Rows.Copied PySem.Spec
section
variable {prog : Program} {w : World} {A : Around} {E : Value → Shared → Prop} {s : Shared} {β : Type} {vs : List Value} {bs : List β} {enc : β → PyData} {R : Value → β → Prop}
theorem collect_tupleM {l : Addr} {Q : List Value → Shared → Prop} (hl : IsTup s.heap l vs.toArray) (hsz : vs.length ≤ sizeLine)
    (h : Q vs { s with heap := (s.heap.push (seqObj "list" #[] 0)).update s.heap.objs.size (Obj.mapSeq (· ++ vs.toArray)) }) : wpAny (model prog w) A (collect (.ref l)) Q E s := by
  obtain ⟨o, ho, hc, n, hd⟩ := id hl
  unfold collect
  refine wpAny_bind (wpAny_runValue (codeAny_builtin entry_proto_collect' ?_))
  show wpAny _ _ (do again (.builtin "list.__iadd__" ⟨[← newList [], .ref l], []⟩)) _ _ s
  refine wpAny_bind (wpAny_newList (wpAny_pure ⟨Code.quiet_builtin _ (by decide +kernel), codeAny_builtin entry_list_iadd' ?_⟩))
  show wpAny _ _ (Builtin.List.listExtendWith (.ref s.heap.objs.size) (.ref l) (.ref s.heap.objs.size)) _ _ { s with heap := s.heap.push (seqObj "list" #[] 0) }
  unfold Builtin.List.listExtendWith
  have o1 : (s.heap.push (seqObj "list" #[] 0)).get? l = some o := Heap.get?_push_of_some _ ho
  refine wpAny_bind (wpAny_typeOf (T := "tuple") ⟨o, o1, hc⟩ ?_)
  have ht : (Value.type "tuple" == Value.type "tuple") = true := by rfl
  rw [if_pos (by rw [ht]; simp)]
  refine wpAny_bind (listItems_at o1 hd ?_)
  refine wpAny_bind (listItems_at (xs := #[]) (n := 0) (Heap.get?_push_size _ rfl) rfl ?_)
  rw [if_neg (by simp)]
  refine wpAny_bind (listUpdate_at (xs := #[]) (n := 0) (Heap.get?_push_size _ rfl) rfl ?_ (Nat.zero_le _) (by show (#[] ++ vs.toArray).size ≤ sizeLine + 1; simp only [Array.size_append, List.size_toArray, List.length_nil]; omega))
  refine wpAny_pure ?_
  refine wpAny_bind (m := load s.heap.objs.size) (wpAny_load (get?_update_seq (Heap.get?_push_size _ rfl) _) ?_)
  show wpAny _ _ (pure ((#[] : Array Value) ++ vs.toArray).toList) Q E _
  rw [show ((#[] : Array Value) ++ vs.toArray).toList = vs by simp]
  exact wpAny_pure h
theorem sorted_dataT {l : Addr} {Q : Value → Shared → Prop} (hl : IsTup s.heap l vs.toArray) (e : EachIs R vs bs) (er : EachIs (fun v b => ∃ as, Reads s.heap v (enc b) as) vs bs) (hal : AllAlike (bs.map enc)) (hk : Sortable (bs.map enc)) (hL : bs.length ≤ sizeLine)
    (hu : ∀ b, b ∈ bs → A.units + 2 + (enc b).depth < cLine) (h : ∀ out, out.length = bs.length → EachIs R out (bs.mergeSort (dataLe false enc)) → Q (.ref (s.heap.objs.size + 1)) { s with heap := sortedAll s.heap vs (List.toArray out) }) :
    wpAny (model prog w) A (call (.builtin "sorted") [.ref l]) Q E s := by
  have hL2 : vs.length ≤ sizeLine := by rw [e.length]; exact hL
  have e2 : EachIs (fun v b => ∃ as, Reads (sortingHeap (copyHeap s.heap vs) (s.heap.objs.size + 1) vs) v (enc b) as) vs bs := er.mono fun _ _ ⟨as, r⟩ => ⟨as, PyProof.Rows.Reads.keeps (fun _ _ => sorting_copy_old) r⟩
  have S := SortsAt.data (prog := prog) (w := w) (A := A.in1.in1) (s := { s with heap := sortingHeap (copyHeap s.heap vs) (s.heap.objs.size + 1) vs }) (each_map (R := fun v d => ∃ as, Reads (sortingHeap (copyHeap s.heap vs) (s.heap.objs.size + 1) vs) v d as) enc e2) hal hk (bound_map hu)
  have fin := h _ (by rw [sortVals_length false rfl]; exact e.length) (sortVals_data false e e2 hal)
  refine call_function_entry_kw kind_sorted plain_sorted entry_sorted (args_sorted1 _) ?_
  unfold Builtin.«sorted»
  refine wpAny_bind (m := checkCount "sorted" 1 1 _) (wpAny_pure ?_)
  refine wpAny_bind (collect_tupleM hl hL2 ?_)
  refine wpAny_bind (wpAny_newList ?_ hL2)
  have hz : ((s.heap.push (seqObj "list" #[] 0)).update s.heap.objs.size (Obj.mapSeq (· ++ vs.toArray))).objs.size = s.heap.objs.size + 1 := by rw [Heap.size_update, size_push']
  show wpAny _ _ _ _ _ { s with heap := copyHeap s.heap vs }
  rw [hz]
  refine wpAny_bind (wpAny_holding (wpAny_call_entry_kw slot_list_sort ⟨_, copyHeap_at s.heap vs, rfl⟩ entry_list_sort ?body (args_list_sort _)))
  case body =>
    show wpAny (model prog w) A.in1.in1 (Builtin.«list.sort» ⟨[.ref (s.heap.objs.size + 1)], []⟩) _ _ _
    exact list_sort_vals (s := { s with heap := copyHeap s.heap vs }) (copyHeap_at s.heap vs) S hL2 ⟨_, rfl, wpAny_pure ⟨_, rfl, fin⟩⟩
end
end PySem.W
namespace MP
open PySem PySem.Spec PyProof.Rows L2
section
variable {X : Cx}
def gSortedT : GC := fun _ ds => match ds with
  | [.tup xs] => if srtOk xs = true then some (.lst (xs.mergeSort leD)) else none
  | _ => none
theorem cl_sortedT (hu : X.A.units + 64 < cLine) : CallL X (.builtin "sorted") gSortedT := ⟨fun pins s σ H m S xs ds d us I q r rv e => by
  unfold gSortedT at e
  split at e
  · rename_i l
    split at e
    · rename_i hk
      cases e
      obtain ⟨h1, h2, h3, h4, h5⟩ := srtOk_inv hk
      obtain ⟨v, rfl, w⟩ := r.one
      obtain ⟨a, vs, rfl, hs, rr⟩ := vw_tup (S := S) w rfl
      obtain ⟨its, rv2, hl, hz⟩ := I.tuple (SqT.of hs)
      rw [Vals.ref1 rv]
      refine PySem.W.sorted_dataT (R := IsV X.K m H) hl (each_isV rv2 rr) (each_reads I rv2 rr h1) h2 h3 h5 (fun b hb => by have := h4 b hb; omega) fun out ho hE => ?_
      obtain ⟨ws, k1, k2⟩ := of_each hE
      obtain ⟨ep, he'⟩ := PyProof.Rows.sortedAll_at s.heap its (List.toArray out)
      have hn : H (s.heap.objs.size + 1) = none := I.hok.fresh (Nat.le_succ _)
      exact ⟨.ref (s.heap.objs.size + 1), upd H (s.heap.objs.size + 1) (.lst ws), m, I.laid (t' := s.toks) (fun _ _ => PyProof.Rows.sortedAll_old) (Nat.le_succ _) ⟨by rw [k1.length, ho]; exact h5, out, ep, k1, he'⟩, rfl, Ext.fresh hn, q.fresh hn, vr_newLst q hn k2⟩
    · cases e
  · cases e⟩
end
end MP

/-! the end of a walk with the guards: the lines of L2.law_call and L2.walk_ofB over MP.FnOk -/
namespace MP
open PySem PySem.Spec PyProof.Rows L2
theorem law_callG {P : Program} {w : World} {K : PySem.W.Frag} {mg mb : Str → Option Value} {CX : CXT} {k : Nat} {fa a : Addr} {fd : FuncData} {x : Str} {sp : Sp} {s₁ : Shared} {vs : List Value} {ns : List Int}
    (KX : K.In s₁.heap) (hns : s₁.heap.Ns mainGlobals mg) (hb : s₁.heap.Ns builtinsNs mb) (hbb : ∀ x : Str, x ≠ "__name__" → mb x = bootBuiltins x) (hlim : s₁.heap.NoLimit) (hg : s₁.gens = #[])
    (ha : s₁.heap.get? a = some { cls := .type "list", data := .seq vs.toArray }) (hi : IntsAre vs ns) (hl : ns.length ≤ sizeLine) (hr : MP.Room k callerA)
    (F : ∀ base : Heap, K.In base → base.Ns mainGlobals mg → MP.FnOk P w K mg base CX k fa fd [x] sp) (hbind : ∀ (s : Shared) (u : Value), BindsTo s fd ⟨[u], []⟩ [(x, u)])
    (hsp : ∀ H : Hp, Only H → SqL K H a (ns.map V.int) → sp [.ref a] H (fun v _ => v = .bl true) fun _ _ _ => False)
    (hCX : ∀ H e s', CX [] H s₁ (fun _ _ _ => False) e s' → False) :
    codeAny (model P w) callerA (.call (.ref fa) ⟨[.ref a], []⟩) (fun r s' => r = .ok (.ret (.bool true)) ∧ OldK s₁.heap s'.heap ∧ s'.os = s₁.os ∧ AllBare s'.gens) s₁ := by
  have rv := vals_ints hi
  have lenV := hi.length
  -- from an abstract heap in which nothing but the script may be tracked
  have core : ∀ H : Hp, Only H → SqL K H a (ns.map V.int) → HOk P w H s₁.heap → (∀ b, H b ≠ none → b = a) → (H a ≠ none → K.lookup a = none) →
      codeAny (model P w) callerA (.call (.ref fa) ⟨[.ref a], []⟩) (fun r s' => r = .ok (.ret (.bool true)) ∧ OldK s₁.heap s'.heap ∧ s'.os = s₁.os ∧ AllBare s'.gens) s₁ := by
    intro H hO hS hok hA hK
    have base_of : ∀ {b : Addr} {o : Obj}, s₁.heap.get? b = some o → H b = none → (hidT s₁.heap H).get? b = some o := fun e n => hidT_get e n
    have noA : ∀ {b : Addr} {o : Obj} {es : Array DictEntry} {ep : Nat}, s₁.heap.get? b = some o → o.data = .dict es ep → H b = none := fun {b o es ep} e d => by
      cases q : H b with
      | none => rfl
      | some u =>
        have e' : b = a := hA b (by rw [q]; simp)
        subst e'
        rw [ha] at e; cases e
        have d' : Data.seq vs.toArray _ = Data.dict es ep := d
        cases d'
    have nsK : ∀ {b : Addr} {m : Str → Option Value}, s₁.heap.Ns b m → (hidT s₁.heap H).Ns b m := fun {b m} ⟨o, es, ep, e, d, r⟩ => ⟨o, es, ep, base_of e (noA e d), d, r⟩
    have hKb : K.In (hidT s₁.heap H) := fun b o e => base_of (KX b o e) (by
      cases q : H b with
      | none => rfl
      | some u =>
        have e' : b = a := hA b (by rw [q]; simp)
        subst e'
        rw [hK (by rw [q]; simp)] at e; cases e)
    have hM : Mod K mg (hidT s₁.heap H) := ⟨hKb, nsK hns, ⟨mb, nsK hb, hbb⟩, let ⟨mc, h1, h2⟩ := hlim; ⟨mc, nsK h1, h2⟩⟩
    have e0 : Env0 P w K mg (hidT s₁.heap H) callerA [] s₁ H := ⟨rfl, hM, fun b o e => of_hidT e, Nat.le_of_eq (hidT_size _ _), trivial, fun b hb => absurd (show b ∈ ([] : List Addr) from hb) (by simp), hok, .of_eq hg⟩
    refine codeAny_mono ((F _ hKb (nsK hns)).run callerA [] s₁ H ⟨[.ref a], []⟩ [.ref a] [.ref a] _ _ hr e0 (hbind s₁ (.ref a)) (.cons rfl .nil) (hsp H hO hS)) fun r s' h => ?_
    cases r with
    | error e => exact (hCX H e s' h).elim
    | ok fl =>
      cases fl with
      | next => exact False.elim h
      | brk => exact False.elim h
      | cont => exact False.elim h
      | ret u =>
        obtain ⟨v, H', os, bare, un, hok', r', q⟩ := h
        have q' : v = .bl true := q
        subst q'
        obtain rfl : u = Value.bool true := r'
        refine ⟨rfl, OldK.of_keep fun b o e => ?_, os, bare⟩
        cases q : H b with
        | none => exact un.keep b o e q (by intro z; exact absurd (show b ∈ ([] : List Addr) from z) (by simp)) (by simp)
        | some u =>
          rcases hO b with z | ⟨ob, xs, z⟩
          · rw [q] at z; cases z
          · have z2 := un.frzs b ob _ z
            obtain ⟨e1, _⟩ := hok b _ z
            obtain ⟨e2, _⟩ := hok' b _ z2
            rw [e] at e1; cases e1
            exact e2
  cases hk : K.lookup a with
  | some o =>
    -- the script is one of the module's own objects
    have e := KX a o hk
    rw [ha] at e
    cases e
    refine core (fun _ => none) (fun _ => .inl rfl) (.inr ⟨_, vs.toArray, _, hk, rfl, rfl, rfl, by rw [List.size_toArray, lenV]; exact hl, by simpa using rv⟩) (fun b u z => by have z' : (none : Option HO) = some u := z; cases z') (fun b z => absurd rfl z) fun z => absurd rfl z
  | none =>
    refine core (fun b => if b = a then some (.frz { cls := .type "list", data := .seq vs.toArray } (.lst (ns.map V.int))) else none) (fun b => ?_) (.inl (.inr ⟨{ cls := .type "list", data := .seq vs.toArray }, if_pos rfl⟩)) (fun b u z => ?_) (fun b z => ?_) fun _ => hk
    · by_cases hb : b = a
      · exact .inr ⟨_, _, if_pos hb⟩
      · exact .inl (if_neg hb)
    · by_cases hb : b = a
      · have z' := (if_pos hb).symm.trans z
        cases z'
        subst hb
        exact ⟨ha, by rw [List.length_map]; exact hl, vs, _, rv, ha⟩
      · have z' := (if_neg hb).symm.trans z
        cases z'
    · by_cases hb : b = a
      · exact hb
      · exact absurd (if_neg hb) z
theorem walk_ofG {l : PySem.W.OpenLaw} {n k : Nat} {q : Program} {loose : List Str} {XP : (Str → Option Value) → Heap → Prop} {YP : World → Heap → Prop} {d : DefRec} {K : Params → PySem.W.Frag} {CX : World → CXT} {sp : World → Sp} {x : Str}
    (hn : l.most = some n) (hn2 : n ≤ sizeLine) (hdf : d.params.defaults = []) (hr : MP.Room k callerA)
    (hY : ∀ (w : World) (h : Heap), YP w h → (K w.params).In h)
    (F : ∀ (w : World) (mg : Str → Option Value) (fa : Addr) (h : Heap), (K w.params).In h → h.Ns mainGlobals mg → mg d.name = some (.ref fa) →
      ∃ fd : FuncData, (∀ (s : Shared) (u : Value), BindsTo s fd ⟨[u], []⟩ [(x, u)]) ∧
        ∀ base : Heap, (K w.params).In base → base.Ns mainGlobals mg → MP.FnOk l.prog w (K w.params) mg base (CX w) k fa fd [x] (sp w))
    (hsp : ∀ (w : World) (H : Hp) (a : Addr) (ns : List Int), ns.length ≤ n → (∀ z ∈ ns, Builtin.Int.intBits z ≤ 1048576) → Only H → SqL (K w.params) H a (ns.map V.int) → sp w [.ref a] H (fun v _ => v = .bl true) fun _ _ _ => False)
    (hCX : ∀ (w : World) (H : Hp) (s : Shared) (e : Value) (s' : Shared), CX w [] H s (fun _ _ _ => False) e s' → False) :
    PySem.W.WalkO q loose XP YP l.row.toRowW d [] (fun f vs => PySem.call f vs) := by
  refine Att.attach_callB hn hdf fun w s₀ s₁ mg mb fa o pm cd doc a vs ns G Y ho hd hcd hmg hobj hints hlen hbits hg => ?_
  have KX := hY w _ Y
  obtain ⟨fd, hb, hF⟩ := F w mg fa _ KX G.T.g hmg
  exact law_callG KX G.T.g G.T.b G.T.builtins G.T.nolimit hg hobj hints (Nat.le_trans hlen hn2) hr hF hb (fun H hO hS => hsp w H a ns hlen hbits hO hS) fun H e s' => hCX w H s₁ e s'
theorem room_caller {k : Nat} (h : L2.Room k callerA) : MP.Room k callerA := ⟨h, rfl⟩
end MP

namespace MP
open PySem PySem.Spec PyProof.Rows L2
theorem dfl1i {K : PySem.W.Frag} {T : Addr} {c cls : Value} {n : Nat} {dd : Option Addr} {sl : Array (Option Value)} (h : K.lookup T = some ⟨cls, dd, .seq #[c] n, sl⟩) (hc : ∃ t, c = .int 1 t) : DflV K (.ref T) [.int 1] :=
  .inr ⟨by simp, T, _, [c], n, rfl, h, rfl, .cons hc .nil⟩
theorem dfl1s {K : PySem.W.Frag} {T : Addr} {c cls : Value} {n : Nat} {dd : Option Addr} {sl : Array (Option Value)} (h : K.lookup T = some ⟨cls, dd, .seq #[c] n, sl⟩) (hc : ∃ t, c = .str "" t) : DflV K (.ref T) [.str ""] :=
  .inr ⟨by simp, T, _, [c], n, rfl, h, rfl, .cons hc .nil⟩
end MP
namespace K61
open PySem PySem.Spec PyProof.Rows L2 MP
def top (i : Nat) : Stmt := PySem.Challenge.pw_lotgivers_k61_deeds_of_a_club.main.body.getD i (.Pass ⟨0, 0, 0, 0⟩)
abbrev s_circle_rows : Stmt := top 18
abbrev N_circle_rows : List Str := ["members", "bars", "past", "gap", "found", "name", "house", "giver", "taker", "year", "pair"]
theorem sc_circle_rows : FnScope N_circle_rows ["members", "bars", "past", "gap"] (defScope s_circle_rows) := ⟨rfl, rfl, rfl, by decide +kernel, rfl, by decide +kernel, by decide +kernel⟩
abbrev s_Circle___init__ : Stmt := inClass (top 19) 0
abbrev N_Circle___init__ : List Str := ["self", "members", "bars", "past", "gap", "pair", "year"]
theorem sc_Circle___init__ : FnScope N_Circle___init__ ["self", "members", "bars", "past", "gap"] (defScope s_Circle___init__) := ⟨rfl, rfl, rfl, by decide +kernel, rfl, by decide +kernel, by decide +kernel⟩
abbrev s_Circle___eq__ : Stmt := inClass (top 19) 1
abbrev N_Circle___eq__ : List Str := ["self", "other", "mine", "theirs"]
theorem sc_Circle___eq__ : FnScope N_Circle___eq__ ["self", "other"] (defScope s_Circle___eq__) := ⟨rfl, rfl, rfl, by decide +kernel, rfl, by decide +kernel, by decide +kernel⟩
abbrev s_Circle___str__ : Stmt := inClass (top 19) 3
abbrev N_Circle___str__ : List Str := ["self"]
theorem sc_Circle___str__ : FnScope N_Circle___str__ ["self"] (defScope s_Circle___str__) := ⟨rfl, rfl, rfl, by decide +kernel, rfl, by decide +kernel, by decide +kernel⟩
abbrev s_Circle_house_of : Stmt := inClass (top 19) 6
abbrev N_Circle_house_of : List Str := ["self", "name"]
theorem sc_Circle_house_of : FnScope N_Circle_house_of ["self", "name"] (defScope s_Circle_house_of) := ⟨rfl, rfl, rfl, by decide +kernel, rfl, by decide +kernel, by decide +kernel⟩
abbrev s_without : Stmt := top 21
abbrev N_without : List Str := ["circle", "name", "rest", "member"]
theorem sc_without : FnScope N_without ["circle", "name"] (defScope s_without) := ⟨rfl, rfl, rfl, by decide +kernel, rfl, by decide +kernel, by decide +kernel⟩
abbrev s_Club___init__ : Stmt := inClass (top 26) 0
abbrev N_Club___init__ : List Str := ["self", "gap"]
theorem sc_Club___init__ : FnScope N_Club___init__ ["self", "gap"] (defScope s_Club___init__) := ⟨rfl, rfl, rfl, by decide +kernel, rfl, by decide +kernel, by decide +kernel⟩
abbrev s_Club___eq__ : Stmt := inClass (top 26) 1
abbrev N_Club___eq__ : List Str := ["self", "other"]
theorem sc_Club___eq__ : FnScope N_Club___eq__ ["self", "other"] (defScope s_Club___eq__) := ⟨rfl, rfl, rfl, by decide +kernel, rfl, by decide +kernel, by decide +kernel⟩
abbrev s_Club___len__ : Stmt := inClass (top 26) 2
abbrev N_Club___len__ : List Str := ["self"]
theorem sc_Club___len__ : FnScope N_Club___len__ ["self"] (defScope s_Club___len__) := ⟨rfl, rfl, rfl, by decide +kernel, rfl, by decide +kernel, by decide +kernel⟩
abbrev s_Club___str__ : Stmt := inClass (top 26) 3
abbrev N_Club___str__ : List Str := ["self"]
theorem sc_Club___str__ : FnScope N_Club___str__ ["self"] (defScope s_Club___str__) := ⟨rfl, rfl, rfl, by decide +kernel, rfl, by decide +kernel, by decide +kernel⟩
abbrev s_Club_circle : Stmt := inClass (top 26) 4
abbrev N_Club_circle : List Str := ["self"]
theorem sc_Club_circle : FnScope N_Club_circle ["self"] (defScope s_Club_circle) := ⟨rfl, rfl, rfl, by decide +kernel, rfl, by decide +kernel, by decide +kernel⟩
abbrev s_Club_is_there : Stmt := inClass (top 26) 5
abbrev N_Club_is_there : List Str := ["self", "name", "member"]
theorem sc_Club_is_there : FnScope N_Club_is_there ["self", "name"] (defScope s_Club_is_there) := ⟨rfl, rfl, rfl, by decide +kernel, rfl, by decide +kernel, by decide +kernel⟩
abbrev s_Club_become : Stmt := inClass (top 26) 6
abbrev N_Club_become : List Str := ["self", "members", "bars", "years"]
theorem sc_Club_become : FnScope N_Club_become ["self", "members", "bars", "years"] (defScope s_Club_become) := ⟨rfl, rfl, rfl, by decide +kernel, rfl, by decide +kernel, by decide +kernel⟩
abbrev s_Club_join : Stmt := inClass (top 26) 7
abbrev N_Club_join : List Str := ["self", "name", "house"]
theorem sc_Club_join : FnScope N_Club_join ["self", "name", "house"] (defScope s_Club_join) := ⟨rfl, rfl, rfl, by decide +kernel, rfl, by decide +kernel, by decide +kernel⟩
abbrev s_Club_leave : Stmt := inClass (top 26) 8
abbrev N_Club_leave : List Str := ["self", "name"]
theorem sc_Club_leave : FnScope N_Club_leave ["self", "name"] (defScope s_Club_leave) := ⟨rfl, rfl, rfl, by decide +kernel, rfl, by decide +kernel, by decide +kernel⟩
abbrev s_Club_bar : Stmt := inClass (top 26) 9
abbrev N_Club_bar : List Str := ["self", "giver", "taker", "name"]
theorem sc_Club_bar : FnScope N_Club_bar ["self", "giver", "taker"] (defScope s_Club_bar) := ⟨rfl, rfl, rfl, by decide +kernel, rfl, by decide +kernel, by decide +kernel⟩
abbrev s_Club_unbar : Stmt := inClass (top 26) 10
abbrev N_Club_unbar : List Str := ["self", "giver", "taker", "bars", "pair"]
theorem sc_Club_unbar : FnScope N_Club_unbar ["self", "giver", "taker"] (defScope s_Club_unbar) := ⟨rfl, rfl, rfl, by decide +kernel, rfl, by decide +kernel, by decide +kernel⟩
abbrev s_Club_back : Stmt := inClass (top 26) 15
abbrev N_Club_back : List Str := ["self"]
theorem sc_Club_back : FnScope N_Club_back ["self"] (defScope s_Club_back) := ⟨rfl, rfl, rfl, by decide +kernel, rfl, by decide +kernel, by decide +kernel⟩
abbrev s_Club_last : Stmt := inClass (top 26) 16
abbrev N_Club_last : List Str := ["self"]
theorem sc_Club_last : FnScope N_Club_last ["self"] (defScope s_Club_last) := ⟨rfl, rfl, rfl, by decide +kernel, rfl, by decide +kernel, by decide +kernel⟩
abbrev s__law_pot : Stmt := top 28
abbrev N__law_pot : List Str := ["_law_script", "_law_k", "_law_cell", "_law_seed"]
theorem sc__law_pot : FnScope N__law_pot ["_law_script", "_law_k"] (defScope s__law_pot) := ⟨rfl, rfl, rfl, by decide +kernel, rfl, by decide +kernel, by decide +kernel⟩
abbrev s__law_pick : Stmt := top 29
abbrev N__law_pick : List Str := ["_law_pot_here", "_law_most", "_law_digit", "_law_step", "_law_twice"]
theorem sc__law_pick : FnScope N__law_pick ["_law_pot_here", "_law_most"] (defScope s__law_pick) := ⟨rfl, rfl, rfl, by decide +kernel, rfl, by decide +kernel, by decide +kernel⟩
abbrev s__law_of : Stmt := top 30
abbrev N__law_of : List Str := ["_law_pot_here", "_law_some"]
theorem sc__law_of : FnScope N__law_of ["_law_pot_here", "_law_some"] (defScope s__law_of) := ⟨rfl, rfl, rfl, by decide +kernel, rfl, by decide +kernel, by decide +kernel⟩
abbrev s__law_names : Stmt := top 31
abbrev N__law_names : List Str := ["_law_pot_here", "_law_most", "_law_letters", "_law_alike", "_law_at", "_law_first", "_law_by", "_law_found", "_law_k", "_law_letter", "_law_end"]
theorem sc__law_names : FnScope N__law_names ["_law_pot_here", "_law_most"] (defScope s__law_names) := ⟨rfl, rfl, rfl, by decide +kernel, rfl, by decide +kernel, by decide +kernel⟩
abbrev s__law_text : Stmt := top 32
abbrev N__law_text : List Str := ["_law_members", "_law_bars", "_law_eras", "_law_gap", "_law_rows", "_law_name", "_law_house", "_law_giver", "_law_taker", "_law_year"]
theorem sc__law_text : FnScope N__law_text ["_law_members", "_law_bars", "_law_eras", "_law_gap"] (defScope s__law_text) := ⟨rfl, rfl, rfl, by decide +kernel, rfl, by decide +kernel, by decide +kernel⟩
abbrev s__law_right : Stmt := top 33
abbrev N__law_right : List Str := ["_law_club", "_law_state", "_law_gap", "_law_members", "_law_bars", "_law_circle"]
theorem sc__law_right : FnScope N__law_right ["_law_club", "_law_state", "_law_gap"] (defScope s__law_right) := ⟨rfl, rfl, rfl, by decide +kernel, rfl, by decide +kernel, by decide +kernel⟩
abbrev s__law_done : Stmt := top 34
abbrev N__law_done : List Str := ["_law_pot_here", "_law_club", "_law_state", "_law_names_here", "_law_members", "_law_bars", "_law_way", "_law_name", "_law_other", "_law_house", "_law_told", "_law_gone", "_law_pair"]
theorem sc__law_done : FnScope N__law_done ["_law_pot_here", "_law_club", "_law_state", "_law_names_here"] (defScope s__law_done) := ⟨rfl, rfl, rfl, by decide +kernel, rfl, by decide +kernel, by decide +kernel⟩
abbrev s__law_by_others : Stmt := top 35
abbrev N__law_by_others : List Str := ["_law_state", "_law_names_here", "_law_gap", "_law_club", "_law_name", "_law_giver", "_law_taker"]
theorem sc__law_by_others : FnScope N__law_by_others ["_law_state", "_law_names_here", "_law_gap"] (defScope s__law_by_others) := ⟨rfl, rfl, rfl, by decide +kernel, rfl, by decide +kernel, by decide +kernel⟩
abbrev s__law_unlike_right : Stmt := top 36
abbrev N__law_unlike_right : List Str := ["_law_club", "_law_other", "_law_state", "_law_name", "_law_giver", "_law_taker"]
theorem sc__law_unlike_right : FnScope N__law_unlike_right ["_law_club", "_law_other", "_law_state"] (defScope s__law_unlike_right) := ⟨rfl, rfl, rfl, by decide +kernel, rfl, by decide +kernel, by decide +kernel⟩
abbrev s__law_refused : Stmt := top 37
abbrev N__law_refused : List Str := ["_law_club", "_law_way", "_law_told"]
theorem sc__law_refused : FnScope N__law_refused ["_law_club", "_law_way"] (defScope s__law_refused) := ⟨rfl, rfl, rfl, by decide +kernel, rfl, by decide +kernel, by decide +kernel⟩
abbrev s_law : Stmt := top 38
abbrev N_law : List Str := ["_law_script", "_law_k", "_law_pot_here", "_law_names_here", "_law_gap", "_law_club", "_law_states", "_law_most", "_law_turn", "_law_found", "_law_other", "_law_thing", "_law_state"]
theorem sc_law : FnScope N_law ["_law_script"] (defScope s_law) := ⟨rfl, rfl, rfl, by decide +kernel, rfl, by decide +kernel, by decide +kernel⟩
structure T61f (K : PySem.W.Frag) (mg : Str → Option Value) where
  C_Circle : Addr
  C_Club : Addr
  f_circle_rows : Addr
  fd_circle_rows : FuncData
  F_circle_rows : Fun K "circle_rows" "circle_rows" s_circle_rows f_circle_rows fd_circle_rows
  b_circle_rows : Binds K fd_circle_rows ["members", "bars", "past", "gap"] []
  mg_circle_rows : mg "circle_rows" = some (.ref f_circle_rows)
  f_Circle___init__ : Addr
  fd_Circle___init__ : FuncData
  F_Circle___init__ : FunD K "__init__" "Circle.__init__" (defArgs s_Circle___init__) (defBody s_Circle___init__) (defScope s_Circle___init__) [.non, .non, .int 1] [] f_Circle___init__ fd_Circle___init__
  a_Circle___init__ : PySem.W.findIn K (.ref C_Circle) "__init__" = some (some (.ref f_Circle___init__))
  i_Circle___init__ : PySem.W.isFn K (.ref f_Circle___init__) = true
  f_Circle___eq__ : Addr
  fd_Circle___eq__ : FuncData
  F_Circle___eq__ : Fun K "__eq__" "Circle.__eq__" s_Circle___eq__ f_Circle___eq__ fd_Circle___eq__
  b_Circle___eq__ : Binds K fd_Circle___eq__ ["self", "other"] []
  a_Circle___eq__ : PySem.W.findIn K (.ref C_Circle) "__eq__" = some (some (.ref f_Circle___eq__))
  i_Circle___eq__ : PySem.W.isFn K (.ref f_Circle___eq__) = true
  f_Circle___str__ : Addr
  fd_Circle___str__ : FuncData
  F_Circle___str__ : Fun K "__str__" "Circle.__str__" s_Circle___str__ f_Circle___str__ fd_Circle___str__
  b_Circle___str__ : Binds K fd_Circle___str__ ["self"] []
  a_Circle___str__ : PySem.W.findIn K (.ref C_Circle) "__str__" = some (some (.ref f_Circle___str__))
  i_Circle___str__ : PySem.W.isFn K (.ref f_Circle___str__) = true
  f_Circle_house_of : Addr
  fd_Circle_house_of : FuncData
  F_Circle_house_of : Fun K "house_of" "Circle.house_of" s_Circle_house_of f_Circle_house_of fd_Circle_house_of
  b_Circle_house_of : Binds K fd_Circle_house_of ["self", "name"] []
  a_Circle_house_of : PySem.W.findIn K (.ref C_Circle) "house_of" = some (some (.ref f_Circle_house_of))
  i_Circle_house_of : PySem.W.isFn K (.ref f_Circle_house_of) = true
  mt_Circle_house_of : Meth K C_Circle "house_of" f_Circle_house_of
  f_without : Addr
  fd_without : FuncData
  F_without : Fun K "without" "without" s_without f_without fd_without
  b_without : Binds K fd_without ["circle", "name"] []
  mg_without : mg "without" = some (.ref f_without)
  f_Club___init__ : Addr
  fd_Club___init__ : FuncData
  F_Club___init__ : FunD K "__init__" "Club.__init__" (defArgs s_Club___init__) (defBody s_Club___init__) (defScope s_Club___init__) [.int 1] [] f_Club___init__ fd_Club___init__
  a_Club___init__ : PySem.W.findIn K (.ref C_Club) "__init__" = some (some (.ref f_Club___init__))
  i_Club___init__ : PySem.W.isFn K (.ref f_Club___init__) = true
  f_Club___eq__ : Addr
  fd_Club___eq__ : FuncData
  F_Club___eq__ : Fun K "__eq__" "Club.__eq__" s_Club___eq__ f_Club___eq__ fd_Club___eq__
  b_Club___eq__ : Binds K fd_Club___eq__ ["self", "other"] []
  a_Club___eq__ : PySem.W.findIn K (.ref C_Club) "__eq__" = some (some (.ref f_Club___eq__))
  i_Club___eq__ : PySem.W.isFn K (.ref f_Club___eq__) = true
  f_Club___len__ : Addr
  fd_Club___len__ : FuncData
  F_Club___len__ : Fun K "__len__" "Club.__len__" s_Club___len__ f_Club___len__ fd_Club___len__
  b_Club___len__ : Binds K fd_Club___len__ ["self"] []
  a_Club___len__ : PySem.W.findIn K (.ref C_Club) "__len__" = some (some (.ref f_Club___len__))
  i_Club___len__ : PySem.W.isFn K (.ref f_Club___len__) = true
  f_Club___str__ : Addr
  fd_Club___str__ : FuncData
  F_Club___str__ : Fun K "__str__" "Club.__str__" s_Club___str__ f_Club___str__ fd_Club___str__
  b_Club___str__ : Binds K fd_Club___str__ ["self"] []
  a_Club___str__ : PySem.W.findIn K (.ref C_Club) "__str__" = some (some (.ref f_Club___str__))
  i_Club___str__ : PySem.W.isFn K (.ref f_Club___str__) = true
  f_Club_circle : Addr
  fd_Club_circle : FuncData
  F_Club_circle : Fun K "circle" "Club.circle" s_Club_circle f_Club_circle fd_Club_circle
  b_Club_circle : Binds K fd_Club_circle ["self"] []
  a_Club_circle : PySem.W.findIn K (.ref C_Club) "circle" = some (some (.ref f_Club_circle))
  i_Club_circle : PySem.W.isFn K (.ref f_Club_circle) = true
  mt_Club_circle : Meth K C_Club "circle" f_Club_circle
  f_Club_is_there : Addr
  fd_Club_is_there : FuncData
  F_Club_is_there : Fun K "is_there" "Club.is_there" s_Club_is_there f_Club_is_there fd_Club_is_there
  b_Club_is_there : Binds K fd_Club_is_there ["self", "name"] []
  a_Club_is_there : PySem.W.findIn K (.ref C_Club) "is_there" = some (some (.ref f_Club_is_there))
  i_Club_is_there : PySem.W.isFn K (.ref f_Club_is_there) = true
  mt_Club_is_there : Meth K C_Club "is_there" f_Club_is_there
  f_Club_become : Addr
  fd_Club_become : FuncData
  F_Club_become : Fun K "become" "Club.become" s_Club_become f_Club_become fd_Club_become
  b_Club_become : Binds K fd_Club_become ["self", "members", "bars", "years"] []
  a_Club_become : PySem.W.findIn K (.ref C_Club) "become" = some (some (.ref f_Club_become))
  i_Club_become : PySem.W.isFn K (.ref f_Club_become) = true
  mt_Club_become : Meth K C_Club "become" f_Club_become
  f_Club_join : Addr
  fd_Club_join : FuncData
  F_Club_join : FunD K "join" "Club.join" (defArgs s_Club_join) (defBody s_Club_join) (defScope s_Club_join) [.str ""] [] f_Club_join fd_Club_join
  a_Club_join : PySem.W.findIn K (.ref C_Club) "join" = some (some (.ref f_Club_join))
  i_Club_join : PySem.W.isFn K (.ref f_Club_join) = true
  mt_Club_join : Meth K C_Club "join" f_Club_join
  f_Club_leave : Addr
  fd_Club_leave : FuncData
  F_Club_leave : Fun K "leave" "Club.leave" s_Club_leave f_Club_leave fd_Club_leave
  b_Club_leave : Binds K fd_Club_leave ["self", "name"] []
  a_Club_leave : PySem.W.findIn K (.ref C_Club) "leave" = some (some (.ref f_Club_leave))
  i_Club_leave : PySem.W.isFn K (.ref f_Club_leave) = true
  mt_Club_leave : Meth K C_Club "leave" f_Club_leave
  f_Club_bar : Addr
  fd_Club_bar : FuncData
  F_Club_bar : Fun K "bar" "Club.bar" s_Club_bar f_Club_bar fd_Club_bar
  b_Club_bar : Binds K fd_Club_bar ["self", "giver", "taker"] []
  a_Club_bar : PySem.W.findIn K (.ref C_Club) "bar" = some (some (.ref f_Club_bar))
  i_Club_bar : PySem.W.isFn K (.ref f_Club_bar) = true
  mt_Club_bar : Meth K C_Club "bar" f_Club_bar
  f_Club_unbar : Addr
  fd_Club_unbar : FuncData
  F_Club_unbar : Fun K "unbar" "Club.unbar" s_Club_unbar f_Club_unbar fd_Club_unbar
  b_Club_unbar : Binds K fd_Club_unbar ["self", "giver", "taker"] []
  a_Club_unbar : PySem.W.findIn K (.ref C_Club) "unbar" = some (some (.ref f_Club_unbar))
  i_Club_unbar : PySem.W.isFn K (.ref f_Club_unbar) = true
  mt_Club_unbar : Meth K C_Club "unbar" f_Club_unbar
  f_Club_back : Addr
  fd_Club_back : FuncData
  F_Club_back : Fun K "back" "Club.back" s_Club_back f_Club_back fd_Club_back
  b_Club_back : Binds K fd_Club_back ["self"] []
  a_Club_back : PySem.W.findIn K (.ref C_Club) "back" = some (some (.ref f_Club_back))
  i_Club_back : PySem.W.isFn K (.ref f_Club_back) = true
  mt_Club_back : Meth K C_Club "back" f_Club_back
  f_Club_last : Addr
  fd_Club_last : FuncData
  F_Club_last : Fun K "last" "Club.last" s_Club_last f_Club_last fd_Club_last
  b_Club_last : Binds K fd_Club_last ["self"] []
  a_Club_last : PySem.W.findIn K (.ref C_Club) "last" = some (some (.ref f_Club_last))
  i_Club_last : PySem.W.isFn K (.ref f_Club_last) = true
  mt_Club_last : Meth K C_Club "last" f_Club_last
  f__law_pot : Addr
  fd__law_pot : FuncData
  F__law_pot : Fun K "_law_pot" "_law_pot" s__law_pot f__law_pot fd__law_pot
  b__law_pot : Binds K fd__law_pot ["_law_script", "_law_k"] []
  mg__law_pot : mg "_law_pot" = some (.ref f__law_pot)
  f__law_pick : Addr
  fd__law_pick : FuncData
  F__law_pick : Fun K "_law_pick" "_law_pick" s__law_pick f__law_pick fd__law_pick
  b__law_pick : Binds K fd__law_pick ["_law_pot_here", "_law_most"] []
  mg__law_pick : mg "_law_pick" = some (.ref f__law_pick)
  f__law_of : Addr
  fd__law_of : FuncData
  F__law_of : Fun K "_law_of" "_law_of" s__law_of f__law_of fd__law_of
  b__law_of : Binds K fd__law_of ["_law_pot_here", "_law_some"] []
  mg__law_of : mg "_law_of" = some (.ref f__law_of)
  f__law_names : Addr
  fd__law_names : FuncData
  F__law_names : Fun K "_law_names" "_law_names" s__law_names f__law_names fd__law_names
  b__law_names : Binds K fd__law_names ["_law_pot_here", "_law_most"] []
  mg__law_names : mg "_law_names" = some (.ref f__law_names)
  f__law_text : Addr
  fd__law_text : FuncData
  F__law_text : Fun K "_law_text" "_law_text" s__law_text f__law_text fd__law_text
  b__law_text : Binds K fd__law_text ["_law_members", "_law_bars", "_law_eras", "_law_gap"] []
  mg__law_text : mg "_law_text" = some (.ref f__law_text)
  f__law_right : Addr
  fd__law_right : FuncData
  F__law_right : Fun K "_law_right" "_law_right" s__law_right f__law_right fd__law_right
  b__law_right : Binds K fd__law_right ["_law_club", "_law_state", "_law_gap"] []
  mg__law_right : mg "_law_right" = some (.ref f__law_right)
  f__law_done : Addr
  fd__law_done : FuncData
  F__law_done : Fun K "_law_done" "_law_done" s__law_done f__law_done fd__law_done
  b__law_done : Binds K fd__law_done ["_law_pot_here", "_law_club", "_law_state", "_law_names_here"] []
  mg__law_done : mg "_law_done" = some (.ref f__law_done)
  f__law_by_others : Addr
  fd__law_by_others : FuncData
  F__law_by_others : Fun K "_law_by_others" "_law_by_others" s__law_by_others f__law_by_others fd__law_by_others
  b__law_by_others : Binds K fd__law_by_others ["_law_state", "_law_names_here", "_law_gap"] []
  mg__law_by_others : mg "_law_by_others" = some (.ref f__law_by_others)
  f__law_unlike_right : Addr
  fd__law_unlike_right : FuncData
  F__law_unlike_right : Fun K "_law_unlike_right" "_law_unlike_right" s__law_unlike_right f__law_unlike_right fd__law_unlike_right
  b__law_unlike_right : Binds K fd__law_unlike_right ["_law_club", "_law_other", "_law_state"] []
  mg__law_unlike_right : mg "_law_unlike_right" = some (.ref f__law_unlike_right)
  f__law_refused : Addr
  fd__law_refused : FuncData
  F__law_refused : Fun K "_law_refused" "_law_refused" s__law_refused f__law_refused fd__law_refused
  b__law_refused : Binds K fd__law_refused ["_law_club", "_law_way"] []
  mg__law_refused : mg "_law_refused" = some (.ref f__law_refused)
  f_law : Addr
  fd_law : FuncData
  F_law : Fun K "law" "law" s_law f_law fd_law
  b_law : Binds K fd_law ["_law_script"] []
  mg_law : mg "law" = some (.ref f_law)
  mg_Circle : mg "Circle" = some (.ref C_Circle)
  cl_Circle : Cls K C_Circle
  mk_Circle : Mk K C_Circle f_Circle___init__
  ok_Circle : OwnOk K C_Circle
  na_Circle_members : NoAttr K C_Circle "members"
  na_Circle_bars : NoAttr K C_Circle "bars"
  na_Circle_past : NoAttr K C_Circle "past"
  na_Circle_gap : NoAttr K C_Circle "gap"
  na_Circle_houses : NoAttr K C_Circle "houses"
  na_Circle_names_told : NoAttr K C_Circle "names_told"
  na_Circle_barred : NoAttr K C_Circle "barred"
  na_Circle_gone_by : NoAttr K C_Circle "gone_by"
  ne_Circle : PySem.W.findIn K (.ref C_Circle) "__ne__" = some (some (.builtin "object.__ne__"))
  mg_Club : mg "Club" = some (.ref C_Club)
  cl_Club : Cls K C_Club
  mk_Club : Mk K C_Club f_Club___init__
  ok_Club : OwnOk K C_Club
  na_Club_kept_gap : NoAttr K C_Club "kept_gap"
  na_Club_kept_members : NoAttr K C_Club "kept_members"
  na_Club_kept_bars : NoAttr K C_Club "kept_bars"
  na_Club_kept_years : NoAttr K C_Club "kept_years"
  na_Club_states_had : NoAttr K C_Club "states_had"
  ne_Club : PySem.W.findIn K (.ref C_Club) "__ne__" = some (some (.builtin "object.__ne__"))
  nf_Club_NoneType : PySem.W.notFirst K C_Club (.type "NoneType") = true
  nf_Club_int : PySem.W.notFirst K C_Club (.type "int") = true
  nf_Club_tuple : PySem.W.notFirst K C_Club (.type "tuple") = true
  nf_Club_str : PySem.W.notFirst K C_Club (.type "str") = true
  nf_Club_Circle : PySem.W.notFirst K C_Club (.ref C_Circle) = true
  ko_Club_NoneType : PySem.W.kitOne K (.type "NoneType") (.ref C_Club) = some false
  ko_Club_int : PySem.W.kitOne K (.type "int") (.ref C_Club) = some false
  ko_Club_tuple : PySem.W.kitOne K (.type "tuple") (.ref C_Club) = some false
  ko_Club_str : PySem.W.kitOne K (.type "str") (.ref C_Club) = some false
  ko_Club_Circle : PySem.W.kitOne K (.ref C_Circle) (.ref C_Club) = some false
  n_len : mg "len" = none
  n_any : mg "any" = none
  n_range : mg "range" = none
  n_isinstance : mg "isinstance" = none
  n_list : mg "list" = none
  n_tuple : mg "tuple" = none
  n_str : mg "str" = none
  n_max : mg "max" = none
  n_min : mg "min" = none
  n_dict : mg "dict" = none
  n_int : mg "int" = none
  n_sorted : mg "sorted" = none
  n_repr : mg "repr" = none
def T61f_mk {K : PySem.W.Frag} {h : Heap} {mg : Str → Option Value} (X : K.In h) (G : h.Ns mainGlobals mg)
    {C_Club : Addr}
    {C_Circle : Addr}
    {f_circle_rows : Addr} {od_circle_rows an_circle_rows : Option Addr} {sl_circle_rows : Array (Option Value)} {oc_circle_rows kV_circle_rows dc_circle_rows pm_circle_rows cd_circle_rows ct_circle_rows : Value}
    {f_Circle___init__ : Addr} {od_Circle___init__ an_Circle___init__ : Option Addr} {sl_Circle___init__ : Array (Option Value)} {oc_Circle___init__ kV_Circle___init__ dc_Circle___init__ pm_Circle___init__ cd_Circle___init__ ct_Circle___init__ : Value}
    {dV_Circle___init__ : Value}
    {f_Circle___eq__ : Addr} {od_Circle___eq__ an_Circle___eq__ : Option Addr} {sl_Circle___eq__ : Array (Option Value)} {oc_Circle___eq__ kV_Circle___eq__ dc_Circle___eq__ pm_Circle___eq__ cd_Circle___eq__ ct_Circle___eq__ : Value}
    {f_Circle___str__ : Addr} {od_Circle___str__ an_Circle___str__ : Option Addr} {sl_Circle___str__ : Array (Option Value)} {oc_Circle___str__ kV_Circle___str__ dc_Circle___str__ pm_Circle___str__ cd_Circle___str__ ct_Circle___str__ : Value}
    {f_Circle_house_of : Addr} {od_Circle_house_of an_Circle_house_of : Option Addr} {sl_Circle_house_of : Array (Option Value)} {oc_Circle_house_of kV_Circle_house_of dc_Circle_house_of pm_Circle_house_of cd_Circle_house_of ct_Circle_house_of : Value}
    {f_without : Addr} {od_without an_without : Option Addr} {sl_without : Array (Option Value)} {oc_without kV_without dc_without pm_without cd_without ct_without : Value}
    {f_Club___init__ : Addr} {od_Club___init__ an_Club___init__ : Option Addr} {sl_Club___init__ : Array (Option Value)} {oc_Club___init__ kV_Club___init__ dc_Club___init__ pm_Club___init__ cd_Club___init__ ct_Club___init__ : Value}
    {dV_Club___init__ : Value}
    {f_Club___eq__ : Addr} {od_Club___eq__ an_Club___eq__ : Option Addr} {sl_Club___eq__ : Array (Option Value)} {oc_Club___eq__ kV_Club___eq__ dc_Club___eq__ pm_Club___eq__ cd_Club___eq__ ct_Club___eq__ : Value}
    {f_Club___len__ : Addr} {od_Club___len__ an_Club___len__ : Option Addr} {sl_Club___len__ : Array (Option Value)} {oc_Club___len__ kV_Club___len__ dc_Club___len__ pm_Club___len__ cd_Club___len__ ct_Club___len__ : Value}
    {f_Club___str__ : Addr} {od_Club___str__ an_Club___str__ : Option Addr} {sl_Club___str__ : Array (Option Value)} {oc_Club___str__ kV_Club___str__ dc_Club___str__ pm_Club___str__ cd_Club___str__ ct_Club___str__ : Value}
    {f_Club_circle : Addr} {od_Club_circle an_Club_circle : Option Addr} {sl_Club_circle : Array (Option Value)} {oc_Club_circle kV_Club_circle dc_Club_circle pm_Club_circle cd_Club_circle ct_Club_circle : Value}
    {f_Club_is_there : Addr} {od_Club_is_there an_Club_is_there : Option Addr} {sl_Club_is_there : Array (Option Value)} {oc_Club_is_there kV_Club_is_there dc_Club_is_there pm_Club_is_there cd_Club_is_there ct_Club_is_there : Value}
    {f_Club_become : Addr} {od_Club_become an_Club_become : Option Addr} {sl_Club_become : Array (Option Value)} {oc_Club_become kV_Club_become dc_Club_become pm_Club_become cd_Club_become ct_Club_become : Value}
    {f_Club_join : Addr} {od_Club_join an_Club_join : Option Addr} {sl_Club_join : Array (Option Value)} {oc_Club_join kV_Club_join dc_Club_join pm_Club_join cd_Club_join ct_Club_join : Value}
    {dV_Club_join : Value}
    {f_Club_leave : Addr} {od_Club_leave an_Club_leave : Option Addr} {sl_Club_leave : Array (Option Value)} {oc_Club_leave kV_Club_leave dc_Club_leave pm_Club_leave cd_Club_leave ct_Club_leave : Value}
    {f_Club_bar : Addr} {od_Club_bar an_Club_bar : Option Addr} {sl_Club_bar : Array (Option Value)} {oc_Club_bar kV_Club_bar dc_Club_bar pm_Club_bar cd_Club_bar ct_Club_bar : Value}
    {f_Club_unbar : Addr} {od_Club_unbar an_Club_unbar : Option Addr} {sl_Club_unbar : Array (Option Value)} {oc_Club_unbar kV_Club_unbar dc_Club_unbar pm_Club_unbar cd_Club_unbar ct_Club_unbar : Value}
    {f_Club_back : Addr} {od_Club_back an_Club_back : Option Addr} {sl_Club_back : Array (Option Value)} {oc_Club_back kV_Club_back dc_Club_back pm_Club_back cd_Club_back ct_Club_back : Value}
    {f_Club_last : Addr} {od_Club_last an_Club_last : Option Addr} {sl_Club_last : Array (Option Value)} {oc_Club_last kV_Club_last dc_Club_last pm_Club_last cd_Club_last ct_Club_last : Value}
    {f__law_pot : Addr} {od__law_pot an__law_pot : Option Addr} {sl__law_pot : Array (Option Value)} {oc__law_pot kV__law_pot dc__law_pot pm__law_pot cd__law_pot ct__law_pot : Value}
    {f__law_pick : Addr} {od__law_pick an__law_pick : Option Addr} {sl__law_pick : Array (Option Value)} {oc__law_pick kV__law_pick dc__law_pick pm__law_pick cd__law_pick ct__law_pick : Value}
    {f__law_of : Addr} {od__law_of an__law_of : Option Addr} {sl__law_of : Array (Option Value)} {oc__law_of kV__law_of dc__law_of pm__law_of cd__law_of ct__law_of : Value}
    {f__law_names : Addr} {od__law_names an__law_names : Option Addr} {sl__law_names : Array (Option Value)} {oc__law_names kV__law_names dc__law_names pm__law_names cd__law_names ct__law_names : Value}
    {f__law_text : Addr} {od__law_text an__law_text : Option Addr} {sl__law_text : Array (Option Value)} {oc__law_text kV__law_text dc__law_text pm__law_text cd__law_text ct__law_text : Value}
    {f__law_right : Addr} {od__law_right an__law_right : Option Addr} {sl__law_right : Array (Option Value)} {oc__law_right kV__law_right dc__law_right pm__law_right cd__law_right ct__law_right : Value}
    {f__law_done : Addr} {od__law_done an__law_done : Option Addr} {sl__law_done : Array (Option Value)} {oc__law_done kV__law_done dc__law_done pm__law_done cd__law_done ct__law_done : Value}
    {f__law_by_others : Addr} {od__law_by_others an__law_by_others : Option Addr} {sl__law_by_others : Array (Option Value)} {oc__law_by_others kV__law_by_others dc__law_by_others pm__law_by_others cd__law_by_others ct__law_by_others : Value}
    {f__law_unlike_right : Addr} {od__law_unlike_right an__law_unlike_right : Option Addr} {sl__law_unlike_right : Array (Option Value)} {oc__law_unlike_right kV__law_unlike_right dc__law_unlike_right pm__law_unlike_right cd__law_unlike_right ct__law_unlike_right : Value}
    {f__law_refused : Addr} {od__law_refused an__law_refused : Option Addr} {sl__law_refused : Array (Option Value)} {oc__law_refused kV__law_refused dc__law_refused pm__law_refused cd__law_refused ct__law_refused : Value}
    {f_law : Addr} {od_law an_law : Option Addr} {sl_law : Array (Option Value)} {oc_law kV_law dc_law pm_law cd_law ct_law : Value}
    (aC_Circle : PySem.W.nsIn K mainGlobals "Circle" = some (some (.ref C_Circle)))
    (aC_Club : PySem.W.nsIn K mainGlobals "Club" = some (some (.ref C_Club)))
    (a_circle_rows : PySem.W.nsIn K mainGlobals "circle_rows" = some (some (.ref f_circle_rows)))
    (l_circle_rows : K.lookup f_circle_rows = some ⟨oc_circle_rows, od_circle_rows, .func (PySem.W.fnOf "circle_rows" "circle_rows" (defArgs s_circle_rows) (defBody s_circle_rows) (defScope s_circle_rows) .none kV_circle_rows dc_circle_rows pm_circle_rows an_circle_rows cd_circle_rows ct_circle_rows), sl_circle_rows⟩)
    (c_circle_rows : PySem.W.codeIn K cd_circle_rows "circle_rows" = true)
    (k_circle_rows : PySem.W.keepIn K (.ref f_circle_rows) = true)
    (a_Circle___init__ : PySem.W.findIn K (.ref C_Circle) "__init__" = some (some (.ref f_Circle___init__)))
    (i_Circle___init__ : PySem.W.isFn K (.ref f_Circle___init__) = true)
    (l_Circle___init__ : K.lookup f_Circle___init__ = some ⟨oc_Circle___init__, od_Circle___init__, .func (PySem.W.fnOf "__init__" "Circle.__init__" (defArgs s_Circle___init__) (defBody s_Circle___init__) (defScope s_Circle___init__) dV_Circle___init__ kV_Circle___init__ dc_Circle___init__ pm_Circle___init__ an_Circle___init__ cd_Circle___init__ ct_Circle___init__), sl_Circle___init__⟩)
    (c_Circle___init__ : PySem.W.codeIn K cd_Circle___init__ "Circle.__init__" = true)
    (k_Circle___init__ : PySem.W.keepIn K (.ref f_Circle___init__) = true)
    (dv_Circle___init__ : DflV K dV_Circle___init__ [.non, .non, .int 1])
    (a_Circle___eq__ : PySem.W.findIn K (.ref C_Circle) "__eq__" = some (some (.ref f_Circle___eq__)))
    (i_Circle___eq__ : PySem.W.isFn K (.ref f_Circle___eq__) = true)
    (l_Circle___eq__ : K.lookup f_Circle___eq__ = some ⟨oc_Circle___eq__, od_Circle___eq__, .func (PySem.W.fnOf "__eq__" "Circle.__eq__" (defArgs s_Circle___eq__) (defBody s_Circle___eq__) (defScope s_Circle___eq__) .none kV_Circle___eq__ dc_Circle___eq__ pm_Circle___eq__ an_Circle___eq__ cd_Circle___eq__ ct_Circle___eq__), sl_Circle___eq__⟩)
    (c_Circle___eq__ : PySem.W.codeIn K cd_Circle___eq__ "Circle.__eq__" = true)
    (k_Circle___eq__ : PySem.W.keepIn K (.ref f_Circle___eq__) = true)
    (a_Circle___str__ : PySem.W.findIn K (.ref C_Circle) "__str__" = some (some (.ref f_Circle___str__)))
    (i_Circle___str__ : PySem.W.isFn K (.ref f_Circle___str__) = true)
    (l_Circle___str__ : K.lookup f_Circle___str__ = some ⟨oc_Circle___str__, od_Circle___str__, .func (PySem.W.fnOf "__str__" "Circle.__str__" (defArgs s_Circle___str__) (defBody s_Circle___str__) (defScope s_Circle___str__) .none kV_Circle___str__ dc_Circle___str__ pm_Circle___str__ an_Circle___str__ cd_Circle___str__ ct_Circle___str__), sl_Circle___str__⟩)
    (c_Circle___str__ : PySem.W.codeIn K cd_Circle___str__ "Circle.__str__" = true)
    (k_Circle___str__ : PySem.W.keepIn K (.ref f_Circle___str__) = true)
    (a_Circle_house_of : PySem.W.findIn K (.ref C_Circle) "house_of" = some (some (.ref f_Circle_house_of)))
    (i_Circle_house_of : PySem.W.isFn K (.ref f_Circle_house_of) = true)
    (l_Circle_house_of : K.lookup f_Circle_house_of = some ⟨oc_Circle_house_of, od_Circle_house_of, .func (PySem.W.fnOf "house_of" "Circle.house_of" (defArgs s_Circle_house_of) (defBody s_Circle_house_of) (defScope s_Circle_house_of) .none kV_Circle_house_of dc_Circle_house_of pm_Circle_house_of an_Circle_house_of cd_Circle_house_of ct_Circle_house_of), sl_Circle_house_of⟩)
    (c_Circle_house_of : PySem.W.codeIn K cd_Circle_house_of "Circle.house_of" = true)
    (k_Circle_house_of : PySem.W.keepIn K (.ref f_Circle_house_of) = true)
    (a_without : PySem.W.nsIn K mainGlobals "without" = some (some (.ref f_without)))
    (l_without : K.lookup f_without = some ⟨oc_without, od_without, .func (PySem.W.fnOf "without" "without" (defArgs s_without) (defBody s_without) (defScope s_without) .none kV_without dc_without pm_without an_without cd_without ct_without), sl_without⟩)
    (c_without : PySem.W.codeIn K cd_without "without" = true)
    (k_without : PySem.W.keepIn K (.ref f_without) = true)
    (a_Club___init__ : PySem.W.findIn K (.ref C_Club) "__init__" = some (some (.ref f_Club___init__)))
    (i_Club___init__ : PySem.W.isFn K (.ref f_Club___init__) = true)
    (l_Club___init__ : K.lookup f_Club___init__ = some ⟨oc_Club___init__, od_Club___init__, .func (PySem.W.fnOf "__init__" "Club.__init__" (defArgs s_Club___init__) (defBody s_Club___init__) (defScope s_Club___init__) dV_Club___init__ kV_Club___init__ dc_Club___init__ pm_Club___init__ an_Club___init__ cd_Club___init__ ct_Club___init__), sl_Club___init__⟩)
    (c_Club___init__ : PySem.W.codeIn K cd_Club___init__ "Club.__init__" = true)
    (k_Club___init__ : PySem.W.keepIn K (.ref f_Club___init__) = true)
    (dv_Club___init__ : DflV K dV_Club___init__ [.int 1])
    (a_Club___eq__ : PySem.W.findIn K (.ref C_Club) "__eq__" = some (some (.ref f_Club___eq__)))
    (i_Club___eq__ : PySem.W.isFn K (.ref f_Club___eq__) = true)
    (l_Club___eq__ : K.lookup f_Club___eq__ = some ⟨oc_Club___eq__, od_Club___eq__, .func (PySem.W.fnOf "__eq__" "Club.__eq__" (defArgs s_Club___eq__) (defBody s_Club___eq__) (defScope s_Club___eq__) .none kV_Club___eq__ dc_Club___eq__ pm_Club___eq__ an_Club___eq__ cd_Club___eq__ ct_Club___eq__), sl_Club___eq__⟩)
    (c_Club___eq__ : PySem.W.codeIn K cd_Club___eq__ "Club.__eq__" = true)
    (k_Club___eq__ : PySem.W.keepIn K (.ref f_Club___eq__) = true)
    (a_Club___len__ : PySem.W.findIn K (.ref C_Club) "__len__" = some (some (.ref f_Club___len__)))
    (i_Club___len__ : PySem.W.isFn K (.ref f_Club___len__) = true)
    (l_Club___len__ : K.lookup f_Club___len__ = some ⟨oc_Club___len__, od_Club___len__, .func (PySem.W.fnOf "__len__" "Club.__len__" (defArgs s_Club___len__) (defBody s_Club___len__) (defScope s_Club___len__) .none kV_Club___len__ dc_Club___len__ pm_Club___len__ an_Club___len__ cd_Club___len__ ct_Club___len__), sl_Club___len__⟩)
    (c_Club___len__ : PySem.W.codeIn K cd_Club___len__ "Club.__len__" = true)
    (k_Club___len__ : PySem.W.keepIn K (.ref f_Club___len__) = true)
    (a_Club___str__ : PySem.W.findIn K (.ref C_Club) "__str__" = some (some (.ref f_Club___str__)))
    (i_Club___str__ : PySem.W.isFn K (.ref f_Club___str__) = true)
    (l_Club___str__ : K.lookup f_Club___str__ = some ⟨oc_Club___str__, od_Club___str__, .func (PySem.W.fnOf "__str__" "Club.__str__" (defArgs s_Club___str__) (defBody s_Club___str__) (defScope s_Club___str__) .none kV_Club___str__ dc_Club___str__ pm_Club___str__ an_Club___str__ cd_Club___str__ ct_Club___str__), sl_Club___str__⟩)
    (c_Club___str__ : PySem.W.codeIn K cd_Club___str__ "Club.__str__" = true)
    (k_Club___str__ : PySem.W.keepIn K (.ref f_Club___str__) = true)
    (a_Club_circle : PySem.W.findIn K (.ref C_Club) "circle" = some (some (.ref f_Club_circle)))
    (i_Club_circle : PySem.W.isFn K (.ref f_Club_circle) = true)
    (l_Club_circle : K.lookup f_Club_circle = some ⟨oc_Club_circle, od_Club_circle, .func (PySem.W.fnOf "circle" "Club.circle" (defArgs s_Club_circle) (defBody s_Club_circle) (defScope s_Club_circle) .none kV_Club_circle dc_Club_circle pm_Club_circle an_Club_circle cd_Club_circle ct_Club_circle), sl_Club_circle⟩)
    (c_Club_circle : PySem.W.codeIn K cd_Club_circle "Club.circle" = true)
    (k_Club_circle : PySem.W.keepIn K (.ref f_Club_circle) = true)
    (a_Club_is_there : PySem.W.findIn K (.ref C_Club) "is_there" = some (some (.ref f_Club_is_there)))
    (i_Club_is_there : PySem.W.isFn K (.ref f_Club_is_there) = true)
    (l_Club_is_there : K.lookup f_Club_is_there = some ⟨oc_Club_is_there, od_Club_is_there, .func (PySem.W.fnOf "is_there" "Club.is_there" (defArgs s_Club_is_there) (defBody s_Club_is_there) (defScope s_Club_is_there) .none kV_Club_is_there dc_Club_is_there pm_Club_is_there an_Club_is_there cd_Club_is_there ct_Club_is_there), sl_Club_is_there⟩)
    (c_Club_is_there : PySem.W.codeIn K cd_Club_is_there "Club.is_there" = true)
    (k_Club_is_there : PySem.W.keepIn K (.ref f_Club_is_there) = true)
    (a_Club_become : PySem.W.findIn K (.ref C_Club) "become" = some (some (.ref f_Club_become)))
    (i_Club_become : PySem.W.isFn K (.ref f_Club_become) = true)
    (l_Club_become : K.lookup f_Club_become = some ⟨oc_Club_become, od_Club_become, .func (PySem.W.fnOf "become" "Club.become" (defArgs s_Club_become) (defBody s_Club_become) (defScope s_Club_become) .none kV_Club_become dc_Club_become pm_Club_become an_Club_become cd_Club_become ct_Club_become), sl_Club_become⟩)
    (c_Club_become : PySem.W.codeIn K cd_Club_become "Club.become" = true)
    (k_Club_become : PySem.W.keepIn K (.ref f_Club_become) = true)
    (a_Club_join : PySem.W.findIn K (.ref C_Club) "join" = some (some (.ref f_Club_join)))
    (i_Club_join : PySem.W.isFn K (.ref f_Club_join) = true)
    (l_Club_join : K.lookup f_Club_join = some ⟨oc_Club_join, od_Club_join, .func (PySem.W.fnOf "join" "Club.join" (defArgs s_Club_join) (defBody s_Club_join) (defScope s_Club_join) dV_Club_join kV_Club_join dc_Club_join pm_Club_join an_Club_join cd_Club_join ct_Club_join), sl_Club_join⟩)
    (c_Club_join : PySem.W.codeIn K cd_Club_join "Club.join" = true)
    (k_Club_join : PySem.W.keepIn K (.ref f_Club_join) = true)
    (dv_Club_join : DflV K dV_Club_join [.str ""])
    (a_Club_leave : PySem.W.findIn K (.ref C_Club) "leave" = some (some (.ref f_Club_leave)))
    (i_Club_leave : PySem.W.isFn K (.ref f_Club_leave) = true)
    (l_Club_leave : K.lookup f_Club_leave = some ⟨oc_Club_leave, od_Club_leave, .func (PySem.W.fnOf "leave" "Club.leave" (defArgs s_Club_leave) (defBody s_Club_leave) (defScope s_Club_leave) .none kV_Club_leave dc_Club_leave pm_Club_leave an_Club_leave cd_Club_leave ct_Club_leave), sl_Club_leave⟩)
    (c_Club_leave : PySem.W.codeIn K cd_Club_leave "Club.leave" = true)
    (k_Club_leave : PySem.W.keepIn K (.ref f_Club_leave) = true)
    (a_Club_bar : PySem.W.findIn K (.ref C_Club) "bar" = some (some (.ref f_Club_bar)))
    (i_Club_bar : PySem.W.isFn K (.ref f_Club_bar) = true)
    (l_Club_bar : K.lookup f_Club_bar = some ⟨oc_Club_bar, od_Club_bar, .func (PySem.W.fnOf "bar" "Club.bar" (defArgs s_Club_bar) (defBody s_Club_bar) (defScope s_Club_bar) .none kV_Club_bar dc_Club_bar pm_Club_bar an_Club_bar cd_Club_bar ct_Club_bar), sl_Club_bar⟩)
    (c_Club_bar : PySem.W.codeIn K cd_Club_bar "Club.bar" = true)
    (k_Club_bar : PySem.W.keepIn K (.ref f_Club_bar) = true)
    (a_Club_unbar : PySem.W.findIn K (.ref C_Club) "unbar" = some (some (.ref f_Club_unbar)))
    (i_Club_unbar : PySem.W.isFn K (.ref f_Club_unbar) = true)
    (l_Club_unbar : K.lookup f_Club_unbar = some ⟨oc_Club_unbar, od_Club_unbar, .func (PySem.W.fnOf "unbar" "Club.unbar" (defArgs s_Club_unbar) (defBody s_Club_unbar) (defScope s_Club_unbar) .none kV_Club_unbar dc_Club_unbar pm_Club_unbar an_Club_unbar cd_Club_unbar ct_Club_unbar), sl_Club_unbar⟩)
    (c_Club_unbar : PySem.W.codeIn K cd_Club_unbar "Club.unbar" = true)
    (k_Club_unbar : PySem.W.keepIn K (.ref f_Club_unbar) = true)
    (a_Club_back : PySem.W.findIn K (.ref C_Club) "back" = some (some (.ref f_Club_back)))
    (i_Club_back : PySem.W.isFn K (.ref f_Club_back) = true)
    (l_Club_back : K.lookup f_Club_back = some ⟨oc_Club_back, od_Club_back, .func (PySem.W.fnOf "back" "Club.back" (defArgs s_Club_back) (defBody s_Club_back) (defScope s_Club_back) .none kV_Club_back dc_Club_back pm_Club_back an_Club_back cd_Club_back ct_Club_back), sl_Club_back⟩)
    (c_Club_back : PySem.W.codeIn K cd_Club_back "Club.back" = true)
    (k_Club_back : PySem.W.keepIn K (.ref f_Club_back) = true)
    (a_Club_last : PySem.W.findIn K (.ref C_Club) "last" = some (some (.ref f_Club_last)))
    (i_Club_last : PySem.W.isFn K (.ref f_Club_last) = true)
    (l_Club_last : K.lookup f_Club_last = some ⟨oc_Club_last, od_Club_last, .func (PySem.W.fnOf "last" "Club.last" (defArgs s_Club_last) (defBody s_Club_last) (defScope s_Club_last) .none kV_Club_last dc_Club_last pm_Club_last an_Club_last cd_Club_last ct_Club_last), sl_Club_last⟩)
    (c_Club_last : PySem.W.codeIn K cd_Club_last "Club.last" = true)
    (k_Club_last : PySem.W.keepIn K (.ref f_Club_last) = true)
    (a__law_pot : PySem.W.nsIn K mainGlobals "_law_pot" = some (some (.ref f__law_pot)))
    (l__law_pot : K.lookup f__law_pot = some ⟨oc__law_pot, od__law_pot, .func (PySem.W.fnOf "_law_pot" "_law_pot" (defArgs s__law_pot) (defBody s__law_pot) (defScope s__law_pot) .none kV__law_pot dc__law_pot pm__law_pot an__law_pot cd__law_pot ct__law_pot), sl__law_pot⟩)
    (c__law_pot : PySem.W.codeIn K cd__law_pot "_law_pot" = true)
    (k__law_pot : PySem.W.keepIn K (.ref f__law_pot) = true)
    (a__law_pick : PySem.W.nsIn K mainGlobals "_law_pick" = some (some (.ref f__law_pick)))
    (l__law_pick : K.lookup f__law_pick = some ⟨oc__law_pick, od__law_pick, .func (PySem.W.fnOf "_law_pick" "_law_pick" (defArgs s__law_pick) (defBody s__law_pick) (defScope s__law_pick) .none kV__law_pick dc__law_pick pm__law_pick an__law_pick cd__law_pick ct__law_pick), sl__law_pick⟩)
    (c__law_pick : PySem.W.codeIn K cd__law_pick "_law_pick" = true)
    (k__law_pick : PySem.W.keepIn K (.ref f__law_pick) = true)
    (a__law_of : PySem.W.nsIn K mainGlobals "_law_of" = some (some (.ref f__law_of)))
    (l__law_of : K.lookup f__law_of = some ⟨oc__law_of, od__law_of, .func (PySem.W.fnOf "_law_of" "_law_of" (defArgs s__law_of) (defBody s__law_of) (defScope s__law_of) .none kV__law_of dc__law_of pm__law_of an__law_of cd__law_of ct__law_of), sl__law_of⟩)
    (c__law_of : PySem.W.codeIn K cd__law_of "_law_of" = true)
    (k__law_of : PySem.W.keepIn K (.ref f__law_of) = true)
    (a__law_names : PySem.W.nsIn K mainGlobals "_law_names" = some (some (.ref f__law_names)))
    (l__law_names : K.lookup f__law_names = some ⟨oc__law_names, od__law_names, .func (PySem.W.fnOf "_law_names" "_law_names" (defArgs s__law_names) (defBody s__law_names) (defScope s__law_names) .none kV__law_names dc__law_names pm__law_names an__law_names cd__law_names ct__law_names), sl__law_names⟩)
    (c__law_names : PySem.W.codeIn K cd__law_names "_law_names" = true)
    (k__law_names : PySem.W.keepIn K (.ref f__law_names) = true)
    (a__law_text : PySem.W.nsIn K mainGlobals "_law_text" = some (some (.ref f__law_text)))
    (l__law_text : K.lookup f__law_text = some ⟨oc__law_text, od__law_text, .func (PySem.W.fnOf "_law_text" "_law_text" (defArgs s__law_text) (defBody s__law_text) (defScope s__law_text) .none kV__law_text dc__law_text pm__law_text an__law_text cd__law_text ct__law_text), sl__law_text⟩)
    (c__law_text : PySem.W.codeIn K cd__law_text "_law_text" = true)
    (k__law_text : PySem.W.keepIn K (.ref f__law_text) = true)
    (a__law_right : PySem.W.nsIn K mainGlobals "_law_right" = some (some (.ref f__law_right)))
    (l__law_right : K.lookup f__law_right = some ⟨oc__law_right, od__law_right, .func (PySem.W.fnOf "_law_right" "_law_right" (defArgs s__law_right) (defBody s__law_right) (defScope s__law_right) .none kV__law_right dc__law_right pm__law_right an__law_right cd__law_right ct__law_right), sl__law_right⟩)
    (c__law_right : PySem.W.codeIn K cd__law_right "_law_right" = true)
    (k__law_right : PySem.W.keepIn K (.ref f__law_right) = true)
    (a__law_done : PySem.W.nsIn K mainGlobals "_law_done" = some (some (.ref f__law_done)))
    (l__law_done : K.lookup f__law_done = some ⟨oc__law_done, od__law_done, .func (PySem.W.fnOf "_law_done" "_law_done" (defArgs s__law_done) (defBody s__law_done) (defScope s__law_done) .none kV__law_done dc__law_done pm__law_done an__law_done cd__law_done ct__law_done), sl__law_done⟩)
    (c__law_done : PySem.W.codeIn K cd__law_done "_law_done" = true)
    (k__law_done : PySem.W.keepIn K (.ref f__law_done) = true)
    (a__law_by_others : PySem.W.nsIn K mainGlobals "_law_by_others" = some (some (.ref f__law_by_others)))
    (l__law_by_others : K.lookup f__law_by_others = some ⟨oc__law_by_others, od__law_by_others, .func (PySem.W.fnOf "_law_by_others" "_law_by_others" (defArgs s__law_by_others) (defBody s__law_by_others) (defScope s__law_by_others) .none kV__law_by_others dc__law_by_others pm__law_by_others an__law_by_others cd__law_by_others ct__law_by_others), sl__law_by_others⟩)
    (c__law_by_others : PySem.W.codeIn K cd__law_by_others "_law_by_others" = true)
    (k__law_by_others : PySem.W.keepIn K (.ref f__law_by_others) = true)
    (a__law_unlike_right : PySem.W.nsIn K mainGlobals "_law_unlike_right" = some (some (.ref f__law_unlike_right)))
    (l__law_unlike_right : K.lookup f__law_unlike_right = some ⟨oc__law_unlike_right, od__law_unlike_right, .func (PySem.W.fnOf "_law_unlike_right" "_law_unlike_right" (defArgs s__law_unlike_right) (defBody s__law_unlike_right) (defScope s__law_unlike_right) .none kV__law_unlike_right dc__law_unlike_right pm__law_unlike_right an__law_unlike_right cd__law_unlike_right ct__law_unlike_right), sl__law_unlike_right⟩)
    (c__law_unlike_right : PySem.W.codeIn K cd__law_unlike_right "_law_unlike_right" = true)
    (k__law_unlike_right : PySem.W.keepIn K (.ref f__law_unlike_right) = true)
    (a__law_refused : PySem.W.nsIn K mainGlobals "_law_refused" = some (some (.ref f__law_refused)))
    (l__law_refused : K.lookup f__law_refused = some ⟨oc__law_refused, od__law_refused, .func (PySem.W.fnOf "_law_refused" "_law_refused" (defArgs s__law_refused) (defBody s__law_refused) (defScope s__law_refused) .none kV__law_refused dc__law_refused pm__law_refused an__law_refused cd__law_refused ct__law_refused), sl__law_refused⟩)
    (c__law_refused : PySem.W.codeIn K cd__law_refused "_law_refused" = true)
    (k__law_refused : PySem.W.keepIn K (.ref f__law_refused) = true)
    (a_law : PySem.W.nsIn K mainGlobals "law" = some (some (.ref f_law)))
    (l_law : K.lookup f_law = some ⟨oc_law, od_law, .func (PySem.W.fnOf "law" "law" (defArgs s_law) (defBody s_law) (defScope s_law) .none kV_law dc_law pm_law an_law cd_law ct_law), sl_law⟩)
    (c_law : PySem.W.codeIn K cd_law "law" = true)
    (k_law : PySem.W.keepIn K (.ref f_law) = true)
    (pg_Circle : PySem.W.plainGet K C_Circle Str.empty = true)
    (hd_Circle : PySem.W.hasDictIn K C_Circle = true)
    (po_Circle : PySem.W.plainOver K C_Circle = true)
    (sa_Circle : PySem.W.findIn K (.ref C_Circle) "__setattr__" = some (some (.builtin "object.__setattr__")))
    (mkk_Circle : PySem.W.makesIn K C_Circle = true)
    (kc_Circle : PySem.W.keepIn K (.ref C_Circle) = true)
    (ha_Circle : PySem.W.findIn K (.ref C_Circle) "__class__" = some (some (.builtin "object.__class__")))
    (hn_Circle : PySem.W.specialIn K (.builtin "object.__class__") "__get__" = some (some (.builtin "getset_descriptor.__get__")))
    (ht_Circle : PySem.W.takesIn K (.builtin "object.__class__") = some true)
    (hm_Circle : PySem.W.mroIn K C_Circle (.type "object") = some true)
    (na_Circle_members : PySem.W.findIn K (.ref C_Circle) "members" = some none)
    (na_Circle_bars : PySem.W.findIn K (.ref C_Circle) "bars" = some none)
    (na_Circle_past : PySem.W.findIn K (.ref C_Circle) "past" = some none)
    (na_Circle_gap : PySem.W.findIn K (.ref C_Circle) "gap" = some none)
    (na_Circle_houses : PySem.W.findIn K (.ref C_Circle) "houses" = some none)
    (na_Circle_names_told : PySem.W.findIn K (.ref C_Circle) "names_told" = some none)
    (na_Circle_barred : PySem.W.findIn K (.ref C_Circle) "barred" = some none)
    (na_Circle_gone_by : PySem.W.findIn K (.ref C_Circle) "gone_by" = some none)
    (ne_Circle : PySem.W.findIn K (.ref C_Circle) "__ne__" = some (some (.builtin "object.__ne__")))
    (pg_Club : PySem.W.plainGet K C_Club Str.empty = true)
    (hd_Club : PySem.W.hasDictIn K C_Club = true)
    (po_Club : PySem.W.plainOver K C_Club = true)
    (sa_Club : PySem.W.findIn K (.ref C_Club) "__setattr__" = some (some (.builtin "object.__setattr__")))
    (mkk_Club : PySem.W.makesIn K C_Club = true)
    (kc_Club : PySem.W.keepIn K (.ref C_Club) = true)
    (ha_Club : PySem.W.findIn K (.ref C_Club) "__class__" = some (some (.builtin "object.__class__")))
    (hn_Club : PySem.W.specialIn K (.builtin "object.__class__") "__get__" = some (some (.builtin "getset_descriptor.__get__")))
    (ht_Club : PySem.W.takesIn K (.builtin "object.__class__") = some true)
    (hm_Club : PySem.W.mroIn K C_Club (.type "object") = some true)
    (na_Club_kept_gap : PySem.W.findIn K (.ref C_Club) "kept_gap" = some none)
    (na_Club_kept_members : PySem.W.findIn K (.ref C_Club) "kept_members" = some none)
    (na_Club_kept_bars : PySem.W.findIn K (.ref C_Club) "kept_bars" = some none)
    (na_Club_kept_years : PySem.W.findIn K (.ref C_Club) "kept_years" = some none)
    (na_Club_states_had : PySem.W.findIn K (.ref C_Club) "states_had" = some none)
    (ne_Club : PySem.W.findIn K (.ref C_Club) "__ne__" = some (some (.builtin "object.__ne__")))
    (nf_Club_NoneType : PySem.W.notFirst K C_Club (.type "NoneType") = true)
    (nf_Club_int : PySem.W.notFirst K C_Club (.type "int") = true)
    (nf_Club_tuple : PySem.W.notFirst K C_Club (.type "tuple") = true)
    (nf_Club_str : PySem.W.notFirst K C_Club (.type "str") = true)
    (nf_Club_Circle : PySem.W.notFirst K C_Club (.ref C_Circle) = true)
    (ko_Club_NoneType : PySem.W.kitOne K (.type "NoneType") (.ref C_Club) = some false)
    (ko_Club_int : PySem.W.kitOne K (.type "int") (.ref C_Club) = some false)
    (ko_Club_tuple : PySem.W.kitOne K (.type "tuple") (.ref C_Club) = some false)
    (ko_Club_str : PySem.W.kitOne K (.type "str") (.ref C_Club) = some false)
    (ko_Club_Circle : PySem.W.kitOne K (.ref C_Circle) (.ref C_Club) = some false)
    (n_len : PySem.W.nsIn K mainGlobals "len" = some none)
    (n_any : PySem.W.nsIn K mainGlobals "any" = some none)
    (n_range : PySem.W.nsIn K mainGlobals "range" = some none)
    (n_isinstance : PySem.W.nsIn K mainGlobals "isinstance" = some none)
    (n_list : PySem.W.nsIn K mainGlobals "list" = some none)
    (n_tuple : PySem.W.nsIn K mainGlobals "tuple" = some none)
    (n_str : PySem.W.nsIn K mainGlobals "str" = some none)
    (n_max : PySem.W.nsIn K mainGlobals "max" = some none)
    (n_min : PySem.W.nsIn K mainGlobals "min" = some none)
    (n_dict : PySem.W.nsIn K mainGlobals "dict" = some none)
    (n_int : PySem.W.nsIn K mainGlobals "int" = some none)
    (n_sorted : PySem.W.nsIn K mainGlobals "sorted" = some none)
    (n_repr : PySem.W.nsIn K mainGlobals "repr" = some none) : T61f K mg := {
  C_Circle := C_Circle
  C_Club := C_Club
  f_circle_rows := f_circle_rows
  fd_circle_rows := _
  F_circle_rows := fun_mk (st := s_circle_rows) l_circle_rows c_circle_rows k_circle_rows
  b_circle_rows := (fun_mk (st := s_circle_rows) l_circle_rows c_circle_rows k_circle_rows).binds (ps := ["members", "bars", "past", "gap"]) fun _ _ _ _ _ _ us hl => match us, hl with | [_, _, _, _], _ => rfl
  mg_circle_rows := PySem.W.mg_of X G a_circle_rows
  f_Circle___init__ := f_Circle___init__
  fd_Circle___init__ := _
  F_Circle___init__ := ⟨⟨oc_Circle___init__, od_Circle___init__, dV_Circle___init__, kV_Circle___init__, dc_Circle___init__, pm_Circle___init__, an_Circle___init__, cd_Circle___init__, ct_Circle___init__, sl_Circle___init__, rfl, l_Circle___init__, c_Circle___init__, dv_Circle___init__, .inl rfl⟩, k_Circle___init__⟩
  a_Circle___init__ := a_Circle___init__
  i_Circle___init__ := i_Circle___init__
  f_Circle___eq__ := f_Circle___eq__
  fd_Circle___eq__ := _
  F_Circle___eq__ := fun_mk (st := s_Circle___eq__) l_Circle___eq__ c_Circle___eq__ k_Circle___eq__
  b_Circle___eq__ := (fun_mk (st := s_Circle___eq__) l_Circle___eq__ c_Circle___eq__ k_Circle___eq__).binds (ps := ["self", "other"]) fun _ _ _ _ _ _ us hl => match us, hl with | [_, _], _ => rfl
  a_Circle___eq__ := a_Circle___eq__
  i_Circle___eq__ := i_Circle___eq__
  f_Circle___str__ := f_Circle___str__
  fd_Circle___str__ := _
  F_Circle___str__ := fun_mk (st := s_Circle___str__) l_Circle___str__ c_Circle___str__ k_Circle___str__
  b_Circle___str__ := (fun_mk (st := s_Circle___str__) l_Circle___str__ c_Circle___str__ k_Circle___str__).binds (ps := ["self"]) fun _ _ _ _ _ _ us hl => match us, hl with | [_], _ => rfl
  a_Circle___str__ := a_Circle___str__
  i_Circle___str__ := i_Circle___str__
  f_Circle_house_of := f_Circle_house_of
  fd_Circle_house_of := _
  F_Circle_house_of := fun_mk (st := s_Circle_house_of) l_Circle_house_of c_Circle_house_of k_Circle_house_of
  b_Circle_house_of := (fun_mk (st := s_Circle_house_of) l_Circle_house_of c_Circle_house_of k_Circle_house_of).binds (ps := ["self", "name"]) fun _ _ _ _ _ _ us hl => match us, hl with | [_, _], _ => rfl
  a_Circle_house_of := a_Circle_house_of
  i_Circle_house_of := i_Circle_house_of
  mt_Circle_house_of := ⟨a_Circle_house_of, i_Circle_house_of, k_Circle_house_of⟩
  f_without := f_without
  fd_without := _
  F_without := fun_mk (st := s_without) l_without c_without k_without
  b_without := (fun_mk (st := s_without) l_without c_without k_without).binds (ps := ["circle", "name"]) fun _ _ _ _ _ _ us hl => match us, hl with | [_, _], _ => rfl
  mg_without := PySem.W.mg_of X G a_without
  f_Club___init__ := f_Club___init__
  fd_Club___init__ := _
  F_Club___init__ := ⟨⟨oc_Club___init__, od_Club___init__, dV_Club___init__, kV_Club___init__, dc_Club___init__, pm_Club___init__, an_Club___init__, cd_Club___init__, ct_Club___init__, sl_Club___init__, rfl, l_Club___init__, c_Club___init__, dv_Club___init__, .inl rfl⟩, k_Club___init__⟩
  a_Club___init__ := a_Club___init__
  i_Club___init__ := i_Club___init__
  f_Club___eq__ := f_Club___eq__
  fd_Club___eq__ := _
  F_Club___eq__ := fun_mk (st := s_Club___eq__) l_Club___eq__ c_Club___eq__ k_Club___eq__
  b_Club___eq__ := (fun_mk (st := s_Club___eq__) l_Club___eq__ c_Club___eq__ k_Club___eq__).binds (ps := ["self", "other"]) fun _ _ _ _ _ _ us hl => match us, hl with | [_, _], _ => rfl
  a_Club___eq__ := a_Club___eq__
  i_Club___eq__ := i_Club___eq__
  f_Club___len__ := f_Club___len__
  fd_Club___len__ := _
  F_Club___len__ := fun_mk (st := s_Club___len__) l_Club___len__ c_Club___len__ k_Club___len__
  b_Club___len__ := (fun_mk (st := s_Club___len__) l_Club___len__ c_Club___len__ k_Club___len__).binds (ps := ["self"]) fun _ _ _ _ _ _ us hl => match us, hl with | [_], _ => rfl
  a_Club___len__ := a_Club___len__
  i_Club___len__ := i_Club___len__
  f_Club___str__ := f_Club___str__
  fd_Club___str__ := _
  F_Club___str__ := fun_mk (st := s_Club___str__) l_Club___str__ c_Club___str__ k_Club___str__
  b_Club___str__ := (fun_mk (st := s_Club___str__) l_Club___str__ c_Club___str__ k_Club___str__).binds (ps := ["self"]) fun _ _ _ _ _ _ us hl => match us, hl with | [_], _ => rfl
  a_Club___str__ := a_Club___str__
  i_Club___str__ := i_Club___str__
  f_Club_circle := f_Club_circle
  fd_Club_circle := _
  F_Club_circle := fun_mk (st := s_Club_circle) l_Club_circle c_Club_circle k_Club_circle
  b_Club_circle := (fun_mk (st := s_Club_circle) l_Club_circle c_Club_circle k_Club_circle).binds (ps := ["self"]) fun _ _ _ _ _ _ us hl => match us, hl with | [_], _ => rfl
  a_Club_circle := a_Club_circle
  i_Club_circle := i_Club_circle
  mt_Club_circle := ⟨a_Club_circle, i_Club_circle, k_Club_circle⟩
  f_Club_is_there := f_Club_is_there
  fd_Club_is_there := _
  F_Club_is_there := fun_mk (st := s_Club_is_there) l_Club_is_there c_Club_is_there k_Club_is_there
  b_Club_is_there := (fun_mk (st := s_Club_is_there) l_Club_is_there c_Club_is_there k_Club_is_there).binds (ps := ["self", "name"]) fun _ _ _ _ _ _ us hl => match us, hl with | [_, _], _ => rfl
  a_Club_is_there := a_Club_is_there
  i_Club_is_there := i_Club_is_there
  mt_Club_is_there := ⟨a_Club_is_there, i_Club_is_there, k_Club_is_there⟩
  f_Club_become := f_Club_become
  fd_Club_become := _
  F_Club_become := fun_mk (st := s_Club_become) l_Club_become c_Club_become k_Club_become
  b_Club_become := (fun_mk (st := s_Club_become) l_Club_become c_Club_become k_Club_become).binds (ps := ["self", "members", "bars", "years"]) fun _ _ _ _ _ _ us hl => match us, hl with | [_, _, _, _], _ => rfl
  a_Club_become := a_Club_become
  i_Club_become := i_Club_become
  mt_Club_become := ⟨a_Club_become, i_Club_become, k_Club_become⟩
  f_Club_join := f_Club_join
  fd_Club_join := _
  F_Club_join := ⟨⟨oc_Club_join, od_Club_join, dV_Club_join, kV_Club_join, dc_Club_join, pm_Club_join, an_Club_join, cd_Club_join, ct_Club_join, sl_Club_join, rfl, l_Club_join, c_Club_join, dv_Club_join, .inl rfl⟩, k_Club_join⟩
  a_Club_join := a_Club_join
  i_Club_join := i_Club_join
  mt_Club_join := ⟨a_Club_join, i_Club_join, k_Club_join⟩
  f_Club_leave := f_Club_leave
  fd_Club_leave := _
  F_Club_leave := fun_mk (st := s_Club_leave) l_Club_leave c_Club_leave k_Club_leave
  b_Club_leave := (fun_mk (st := s_Club_leave) l_Club_leave c_Club_leave k_Club_leave).binds (ps := ["self", "name"]) fun _ _ _ _ _ _ us hl => match us, hl with | [_, _], _ => rfl
  a_Club_leave := a_Club_leave
  i_Club_leave := i_Club_leave
  mt_Club_leave := ⟨a_Club_leave, i_Club_leave, k_Club_leave⟩
  f_Club_bar := f_Club_bar
  fd_Club_bar := _
  F_Club_bar := fun_mk (st := s_Club_bar) l_Club_bar c_Club_bar k_Club_bar
  b_Club_bar := (fun_mk (st := s_Club_bar) l_Club_bar c_Club_bar k_Club_bar).binds (ps := ["self", "giver", "taker"]) fun _ _ _ _ _ _ us hl => match us, hl with | [_, _, _], _ => rfl
  a_Club_bar := a_Club_bar
  i_Club_bar := i_Club_bar
  mt_Club_bar := ⟨a_Club_bar, i_Club_bar, k_Club_bar⟩
  f_Club_unbar := f_Club_unbar
  fd_Club_unbar := _
  F_Club_unbar := fun_mk (st := s_Club_unbar) l_Club_unbar c_Club_unbar k_Club_unbar
  b_Club_unbar := (fun_mk (st := s_Club_unbar) l_Club_unbar c_Club_unbar k_Club_unbar).binds (ps := ["self", "giver", "taker"]) fun _ _ _ _ _ _ us hl => match us, hl with | [_, _, _], _ => rfl
  a_Club_unbar := a_Club_unbar
  i_Club_unbar := i_Club_unbar
  mt_Club_unbar := ⟨a_Club_unbar, i_Club_unbar, k_Club_unbar⟩
  f_Club_back := f_Club_back
  fd_Club_back := _
  F_Club_back := fun_mk (st := s_Club_back) l_Club_back c_Club_back k_Club_back
  b_Club_back := (fun_mk (st := s_Club_back) l_Club_back c_Club_back k_Club_back).binds (ps := ["self"]) fun _ _ _ _ _ _ us hl => match us, hl with | [_], _ => rfl
  a_Club_back := a_Club_back
  i_Club_back := i_Club_back
  mt_Club_back := ⟨a_Club_back, i_Club_back, k_Club_back⟩
  f_Club_last := f_Club_last
  fd_Club_last := _
  F_Club_last := fun_mk (st := s_Club_last) l_Club_last c_Club_last k_Club_last
  b_Club_last := (fun_mk (st := s_Club_last) l_Club_last c_Club_last k_Club_last).binds (ps := ["self"]) fun _ _ _ _ _ _ us hl => match us, hl with | [_], _ => rfl
  a_Club_last := a_Club_last
  i_Club_last := i_Club_last
  mt_Club_last := ⟨a_Club_last, i_Club_last, k_Club_last⟩
  f__law_pot := f__law_pot
  fd__law_pot := _
  F__law_pot := fun_mk (st := s__law_pot) l__law_pot c__law_pot k__law_pot
  b__law_pot := (fun_mk (st := s__law_pot) l__law_pot c__law_pot k__law_pot).binds (ps := ["_law_script", "_law_k"]) fun _ _ _ _ _ _ us hl => match us, hl with | [_, _], _ => rfl
  mg__law_pot := PySem.W.mg_of X G a__law_pot
  f__law_pick := f__law_pick
  fd__law_pick := _
  F__law_pick := fun_mk (st := s__law_pick) l__law_pick c__law_pick k__law_pick
  b__law_pick := (fun_mk (st := s__law_pick) l__law_pick c__law_pick k__law_pick).binds (ps := ["_law_pot_here", "_law_most"]) fun _ _ _ _ _ _ us hl => match us, hl with | [_, _], _ => rfl
  mg__law_pick := PySem.W.mg_of X G a__law_pick
  f__law_of := f__law_of
  fd__law_of := _
  F__law_of := fun_mk (st := s__law_of) l__law_of c__law_of k__law_of
  b__law_of := (fun_mk (st := s__law_of) l__law_of c__law_of k__law_of).binds (ps := ["_law_pot_here", "_law_some"]) fun _ _ _ _ _ _ us hl => match us, hl with | [_, _], _ => rfl
  mg__law_of := PySem.W.mg_of X G a__law_of
  f__law_names := f__law_names
  fd__law_names := _
  F__law_names := fun_mk (st := s__law_names) l__law_names c__law_names k__law_names
  b__law_names := (fun_mk (st := s__law_names) l__law_names c__law_names k__law_names).binds (ps := ["_law_pot_here", "_law_most"]) fun _ _ _ _ _ _ us hl => match us, hl with | [_, _], _ => rfl
  mg__law_names := PySem.W.mg_of X G a__law_names
  f__law_text := f__law_text
  fd__law_text := _
  F__law_text := fun_mk (st := s__law_text) l__law_text c__law_text k__law_text
  b__law_text := (fun_mk (st := s__law_text) l__law_text c__law_text k__law_text).binds (ps := ["_law_members", "_law_bars", "_law_eras", "_law_gap"]) fun _ _ _ _ _ _ us hl => match us, hl with | [_, _, _, _], _ => rfl
  mg__law_text := PySem.W.mg_of X G a__law_text
  f__law_right := f__law_right
  fd__law_right := _
  F__law_right := fun_mk (st := s__law_right) l__law_right c__law_right k__law_right
  b__law_right := (fun_mk (st := s__law_right) l__law_right c__law_right k__law_right).binds (ps := ["_law_club", "_law_state", "_law_gap"]) fun _ _ _ _ _ _ us hl => match us, hl with | [_, _, _], _ => rfl
  mg__law_right := PySem.W.mg_of X G a__law_right
  f__law_done := f__law_done
  fd__law_done := _
  F__law_done := fun_mk (st := s__law_done) l__law_done c__law_done k__law_done
  b__law_done := (fun_mk (st := s__law_done) l__law_done c__law_done k__law_done).binds (ps := ["_law_pot_here", "_law_club", "_law_state", "_law_names_here"]) fun _ _ _ _ _ _ us hl => match us, hl with | [_, _, _, _], _ => rfl
  mg__law_done := PySem.W.mg_of X G a__law_done
  f__law_by_others := f__law_by_others
  fd__law_by_others := _
  F__law_by_others := fun_mk (st := s__law_by_others) l__law_by_others c__law_by_others k__law_by_others
  b__law_by_others := (fun_mk (st := s__law_by_others) l__law_by_others c__law_by_others k__law_by_others).binds (ps := ["_law_state", "_law_names_here", "_law_gap"]) fun _ _ _ _ _ _ us hl => match us, hl with | [_, _, _], _ => rfl
  mg__law_by_others := PySem.W.mg_of X G a__law_by_others
  f__law_unlike_right := f__law_unlike_right
  fd__law_unlike_right := _
  F__law_unlike_right := fun_mk (st := s__law_unlike_right) l__law_unlike_right c__law_unlike_right k__law_unlike_right
  b__law_unlike_right := (fun_mk (st := s__law_unlike_right) l__law_unlike_right c__law_unlike_right k__law_unlike_right).binds (ps := ["_law_club", "_law_other", "_law_state"]) fun _ _ _ _ _ _ us hl => match us, hl with | [_, _, _], _ => rfl
  mg__law_unlike_right := PySem.W.mg_of X G a__law_unlike_right
  f__law_refused := f__law_refused
  fd__law_refused := _
  F__law_refused := fun_mk (st := s__law_refused) l__law_refused c__law_refused k__law_refused
  b__law_refused := (fun_mk (st := s__law_refused) l__law_refused c__law_refused k__law_refused).binds (ps := ["_law_club", "_law_way"]) fun _ _ _ _ _ _ us hl => match us, hl with | [_, _], _ => rfl
  mg__law_refused := PySem.W.mg_of X G a__law_refused
  f_law := f_law
  fd_law := _
  F_law := fun_mk (st := s_law) l_law c_law k_law
  b_law := (fun_mk (st := s_law) l_law c_law k_law).binds (ps := ["_law_script"]) fun _ _ _ _ _ _ us hl => match us, hl with | [_], _ => rfl
  mg_law := PySem.W.mg_of X G a_law
  mg_Circle := PySem.W.mg_of X G aC_Circle
  cl_Circle := ⟨pg_Circle, hd_Circle, po_Circle, sa_Circle⟩
  mk_Circle := ⟨mkk_Circle, a_Circle___init__, i_Circle___init__, kc_Circle⟩
  ok_Circle := ⟨⟨pg_Circle, hd_Circle, po_Circle, sa_Circle⟩, ha_Circle, hn_Circle, ht_Circle, hm_Circle⟩
  na_Circle_members := na_Circle_members
  na_Circle_bars := na_Circle_bars
  na_Circle_past := na_Circle_past
  na_Circle_gap := na_Circle_gap
  na_Circle_houses := na_Circle_houses
  na_Circle_names_told := na_Circle_names_told
  na_Circle_barred := na_Circle_barred
  na_Circle_gone_by := na_Circle_gone_by
  ne_Circle := ne_Circle
  mg_Club := PySem.W.mg_of X G aC_Club
  cl_Club := ⟨pg_Club, hd_Club, po_Club, sa_Club⟩
  mk_Club := ⟨mkk_Club, a_Club___init__, i_Club___init__, kc_Club⟩
  ok_Club := ⟨⟨pg_Club, hd_Club, po_Club, sa_Club⟩, ha_Club, hn_Club, ht_Club, hm_Club⟩
  na_Club_kept_gap := na_Club_kept_gap
  na_Club_kept_members := na_Club_kept_members
  na_Club_kept_bars := na_Club_kept_bars
  na_Club_kept_years := na_Club_kept_years
  na_Club_states_had := na_Club_states_had
  ne_Club := ne_Club
  nf_Club_NoneType := nf_Club_NoneType
  nf_Club_int := nf_Club_int
  nf_Club_tuple := nf_Club_tuple
  nf_Club_str := nf_Club_str
  nf_Club_Circle := nf_Club_Circle
  ko_Club_NoneType := ko_Club_NoneType
  ko_Club_int := ko_Club_int
  ko_Club_tuple := ko_Club_tuple
  ko_Club_str := ko_Club_str
  ko_Club_Circle := ko_Club_Circle
  n_len := PySem.W.mg_none_of X G n_len
  n_any := PySem.W.mg_none_of X G n_any
  n_range := PySem.W.mg_none_of X G n_range
  n_isinstance := PySem.W.mg_none_of X G n_isinstance
  n_list := PySem.W.mg_none_of X G n_list
  n_tuple := PySem.W.mg_none_of X G n_tuple
  n_str := PySem.W.mg_none_of X G n_str
  n_max := PySem.W.mg_none_of X G n_max
  n_min := PySem.W.mg_none_of X G n_min
  n_dict := PySem.W.mg_none_of X G n_dict
  n_int := PySem.W.mg_none_of X G n_int
  n_sorted := PySem.W.mg_none_of X G n_sorted
  n_repr := PySem.W.mg_none_of X G n_repr }
structure T61x (K : PySem.W.Frag) (mg : Str → Option Value) where
  C_NoYear : Addr
  C_NoBack : Addr
  C_LotError : Addr
  mg_NoYear : mg "NoYear" = some (.ref C_NoYear)
  kc_NoYear : PySem.W.keepIn K (.ref C_NoYear) = true
  xf_NoYear : XfC K C_NoYear
  ec_NoYear : ExcC K C_NoYear
  ex_NoYear : PySem.W.subIn K (.ref C_NoYear) (.type "BaseException") = some true
  ty_NoYear : PySem.W.typeIn K (.ref C_NoYear) = some (.type "type")
  xi_NoYear : PySem.W.excIn K C_NoYear [.type "ValueError", .type "Exception", .type "BaseException", .type "object"] "ValueError.__new__" = true
  mg_NoBack : mg "NoBack" = some (.ref C_NoBack)
  kc_NoBack : PySem.W.keepIn K (.ref C_NoBack) = true
  xf_NoBack : XfC K C_NoBack
  ec_NoBack : ExcC K C_NoBack
  ex_NoBack : PySem.W.subIn K (.ref C_NoBack) (.type "BaseException") = some true
  ty_NoBack : PySem.W.typeIn K (.ref C_NoBack) = some (.type "type")
  xi_NoBack : PySem.W.excIn K C_NoBack [.type "ValueError", .type "Exception", .type "BaseException", .type "object"] "ValueError.__new__" = true
  mg_LotError : mg "LotError" = some (.ref C_LotError)
  kc_LotError : PySem.W.keepIn K (.ref C_LotError) = true
  xf_LotError : XfC K C_LotError
  ec_LotError : ExcC K C_LotError
  ex_LotError : PySem.W.subIn K (.ref C_LotError) (.type "BaseException") = some true
  ty_LotError : PySem.W.typeIn K (.ref C_LotError) = some (.type "type")
  li : LInit K C_LotError (.type "type")
def T61x_mk {K : PySem.W.Frag} {h : Heap} {mg : Str → Option Value} (X : K.In h) (G : h.Ns mainGlobals mg)
    {C_NoYear : Addr}
    {C_NoBack : Addr}
    {C_LotError : Addr}
    (aC_NoYear : PySem.W.nsIn K mainGlobals "NoYear" = some (some (.ref C_NoYear)))
    (aC_NoBack : PySem.W.nsIn K mainGlobals "NoBack" = some (some (.ref C_NoBack)))
    (aC_LotError : PySem.W.nsIn K mainGlobals "LotError" = some (some (.ref C_LotError)))
    (hn_ : PySem.W.specialIn K (.builtin "object.__class__") "__get__" = some (some (.builtin "getset_descriptor.__get__")))
    (ht_ : PySem.W.takesIn K (.builtin "object.__class__") = some true)
    (ga_NoYear : PySem.W.findIn K (.ref C_NoYear) "__getattribute__" = some (some (.builtin "BaseException.__getattribute__")))
    (gg_NoYear : PySem.W.findIn K (.ref C_NoYear) "__getattr__" = some none)
    (ex_NoYear : PySem.W.subIn K (.ref C_NoYear) (.type "BaseException") = some true)
    (hd_NoYear : PySem.W.hasDictIn K C_NoYear = true)
    (ty_NoYear : PySem.W.typeIn K (.ref C_NoYear) = some (.type "type"))
    (kc_NoYear : PySem.W.keepIn K (.ref C_NoYear) = true)
    (ha_NoYear : PySem.W.findIn K (.ref C_NoYear) "__class__" = some (some (.builtin "object.__class__")))
    (hm_NoYear : PySem.W.mroIn K C_NoYear (.type "object") = some true)
    (xi_NoYear : PySem.W.excIn K C_NoYear [.type "ValueError", .type "Exception", .type "BaseException", .type "object"] "ValueError.__new__" = true)
    (ga_NoBack : PySem.W.findIn K (.ref C_NoBack) "__getattribute__" = some (some (.builtin "BaseException.__getattribute__")))
    (gg_NoBack : PySem.W.findIn K (.ref C_NoBack) "__getattr__" = some none)
    (ex_NoBack : PySem.W.subIn K (.ref C_NoBack) (.type "BaseException") = some true)
    (hd_NoBack : PySem.W.hasDictIn K C_NoBack = true)
    (ty_NoBack : PySem.W.typeIn K (.ref C_NoBack) = some (.type "type"))
    (kc_NoBack : PySem.W.keepIn K (.ref C_NoBack) = true)
    (ha_NoBack : PySem.W.findIn K (.ref C_NoBack) "__class__" = some (some (.builtin "object.__class__")))
    (hm_NoBack : PySem.W.mroIn K C_NoBack (.type "object") = some true)
    (xi_NoBack : PySem.W.excIn K C_NoBack [.type "ValueError", .type "Exception", .type "BaseException", .type "object"] "ValueError.__new__" = true)
    (ga_LotError : PySem.W.findIn K (.ref C_LotError) "__getattribute__" = some (some (.builtin "BaseException.__getattribute__")))
    (gg_LotError : PySem.W.findIn K (.ref C_LotError) "__getattr__" = some none)
    (ex_LotError : PySem.W.subIn K (.ref C_LotError) (.type "BaseException") = some true)
    (hd_LotError : PySem.W.hasDictIn K C_LotError = true)
    (ty_LotError : PySem.W.typeIn K (.ref C_LotError) = some (.type "type"))
    (kc_LotError : PySem.W.keepIn K (.ref C_LotError) = true)
    (ha_LotError : PySem.W.findIn K (.ref C_LotError) "__class__" = some (some (.builtin "object.__class__")))
    (hm_LotError : PySem.W.mroIn K C_LotError (.type "object") = some true)
    (li1 : PySem.W.readsIn K C_LotError (.type "type") = true)
    (li2 : PySem.W.specialIn K (.ref C_LotError) "__getattribute__" = some (some (.builtin "type.__getattribute__")))
    (li3 : PySem.W.findCls K (.ref C_LotError) (.type "type") "__init__" = some (.val (.builtin "ValueError.__init__"))) : T61x K mg := {
  C_NoYear := C_NoYear
  C_NoBack := C_NoBack
  C_LotError := C_LotError
  mg_NoYear := PySem.W.mg_of X G aC_NoYear
  kc_NoYear := kc_NoYear
  xf_NoYear := ⟨ga_NoYear, gg_NoYear, ex_NoYear, hd_NoYear⟩
  ec_NoYear := ⟨ga_NoYear, gg_NoYear, ex_NoYear, hd_NoYear, ha_NoYear, hn_, ht_, hm_NoYear⟩
  ex_NoYear := ex_NoYear
  ty_NoYear := ty_NoYear
  xi_NoYear := xi_NoYear
  mg_NoBack := PySem.W.mg_of X G aC_NoBack
  kc_NoBack := kc_NoBack
  xf_NoBack := ⟨ga_NoBack, gg_NoBack, ex_NoBack, hd_NoBack⟩
  ec_NoBack := ⟨ga_NoBack, gg_NoBack, ex_NoBack, hd_NoBack, ha_NoBack, hn_, ht_, hm_NoBack⟩
  ex_NoBack := ex_NoBack
  ty_NoBack := ty_NoBack
  xi_NoBack := xi_NoBack
  mg_LotError := PySem.W.mg_of X G aC_LotError
  kc_LotError := kc_LotError
  xf_LotError := ⟨ga_LotError, gg_LotError, ex_LotError, hd_LotError⟩
  ec_LotError := ⟨ga_LotError, gg_LotError, ex_LotError, hd_LotError, ha_LotError, hn_, ht_, hm_LotError⟩
  ex_LotError := ex_LotError
  ty_LotError := ty_LotError
  li := ⟨li1, li2, li3⟩ }
structure T61 (K : PySem.W.Frag) (mg : Str → Option Value) extends T61f K mg, T61x K mg where
  x_yy : PySem.W.exmOne K (.ref C_NoYear) (.ref C_NoYear) = some true
  x_by : PySem.W.exmOne K (.ref C_NoBack) (.ref C_NoYear) = some false
  x_bb : PySem.W.exmOne K (.ref C_NoBack) (.ref C_NoBack) = some true
theorem xm_of {K : PySem.W.Frag} {S C : Addr} {b : Bool} (X : XfC K S) (h1 : PySem.W.subIn K (.ref S) (.type "BaseException") = some true) (h3 : PySem.W.typeIn K (.ref S) = some (.type "type")) (h4 : PySem.W.subIn K (.ref C) (.ref S) = some b) : PySem.W.exmOne K (.ref C) (.ref S) = some b := exm_of h1 X.4 h3 h4
def T61_mk {K : PySem.W.Frag} {mg : Str → Option Value} (t1 : T61f K mg) (t2 : T61x K mg)
    (su_yy : PySem.W.subIn K (.ref t2.C_NoYear) (.ref t2.C_NoYear) = some true) (su_by : PySem.W.subIn K (.ref t2.C_NoBack) (.ref t2.C_NoYear) = some false) (su_bb : PySem.W.subIn K (.ref t2.C_NoBack) (.ref t2.C_NoBack) = some true) : T61 K mg :=
  { toT61f := t1, toT61x := t2, x_yy := xm_of t2.xf_NoYear t2.ex_NoYear t2.ty_NoYear su_yy, x_by := xm_of t2.xf_NoYear t2.ex_NoYear t2.ty_NoYear su_by, x_bb := xm_of t2.xf_NoBack t2.ex_NoBack t2.ty_NoBack su_bb }
/-- Circle(members, bars, past, gap) -/
theorem T61.b4 {K : PySem.W.Frag} {mg : Str → Option Value} (T : T61 K mg) : Binds K T.fd_Circle___init__ ["self", "members", "bars", "past", "gap"] [] := by
  obtain ⟨ds, h1, h2⟩ := T.F_Circle___init__.binds1 (ps := ["self", "members", "bars", "past", "gap"]) 5 3 (by simp) rfl (fun T' kV doc pm an cdv ct us its hu hi => by
    match us, hu, its, hi with
    | [_, _, _, _, _], _, [_, _, _], _ => exact ⟨_, rfl, rfl⟩)
  cases h1
  exact h2
theorem T61.bK {K : PySem.W.Frag} {mg : Str → Option Value} (T : T61 K mg) : Binds K T.fd_Club___init__ ["self", "gap"] [] := by
  obtain ⟨ds, h1, h2⟩ := T.F_Club___init__.binds1 (ps := ["self", "gap"]) 2 1 (by simp) rfl (fun T' kV doc pm an cdv ct us its hu hi => by
    match us, hu, its, hi with
    | [_, _], _, [_], _ => exact ⟨_, rfl, rfl⟩)
  cases h1
  exact h2
theorem T61.dK0 {K : PySem.W.Frag} {mg : Str → Option Value} (T : T61 K mg) : ∃ ds0, Dfl K [.int 1] ds0 [.int 1] ∧ Binds K T.fd_Club___init__ ["self", "gap"] ds0 := by
  obtain ⟨ds, h1, h2⟩ := T.F_Club___init__.binds1 (ps := ["self", "gap"]) 1 0 (by simp) rfl (fun T' kV doc pm an cdv ct us its hu hi => by
    match us, hu, its, hi with
    | [_], _, [_], _ => exact ⟨_, rfl, rfl⟩)
  exact ⟨ds, ⟨h1, fun m H => .cons (.int 1) .nil⟩, h2⟩
theorem T61.bJ2 {K : PySem.W.Frag} {mg : Str → Option Value} (T : T61 K mg) : Binds K T.fd_Club_join ["self", "name", "house"] [] := by
  obtain ⟨ds, h1, h2⟩ := T.F_Club_join.binds1 (ps := ["self", "name", "house"]) 3 1 (by simp) rfl (fun T' kV doc pm an cdv ct us its hu hi => by
    match us, hu, its, hi with
    | [_, _, _], _, [_], _ => exact ⟨_, rfl, rfl⟩)
  cases h1
  exact h2
theorem T61.dJ1 {K : PySem.W.Frag} {mg : Str → Option Value} (T : T61 K mg) : ∃ ds0, Dfl K [.str ""] ds0 [.str ""] ∧ Binds K T.fd_Club_join ["self", "name", "house"] ds0 := by
  obtain ⟨ds, h1, h2⟩ := T.F_Club_join.binds1 (ps := ["self", "name", "house"]) 2 0 (by simp) rfl (fun T' kV doc pm an cdv ct us its hu hi => by
    match us, hu, its, hi with
    | [_, _], _, [_], _ => exact ⟨_, rfl, rfl⟩)
  exact ⟨ds, ⟨h1, fun m H => .cons (.str "") .nil⟩, h2⟩
end K61

namespace K61
open PySem PySem.Spec PyProof.Rows L2 MP
def tabCi (C : Addr) : Tab := fun t => match t with
  | .obj D => if D = C then some true else none
  | _ => none
theorem T61.isi_Circle {K : PySem.W.Frag} {mg : Str → Option Value} (T : T61 K mg) : IsiOk K (.ref T.C_Circle) (tabCi T.C_Circle) := ⟨fun t b h => by
  unfold tabCi at h
  cases t with
  | obj D =>
    dsimp only at h
    split at h
    · rename_i hc
      cases h
      subst hc
      exact ⟨if_pos (beq_self_eq_true _), fun C z => by cases z; exact T.ok_Circle⟩
    · cases h
  | _ => cases h⟩
def tabCl (C C2 : Addr) : Tab := fun t => match t with
  | .obj D => if D = C then some true else if D = C2 then some false else none
  | .tup => some false
  | .str => some false
  | .int => some false
  | .non => some false
  | _ => none
theorem T61.isi_Club {K : PySem.W.Frag} {mg : Str → Option Value} (T : T61 K mg) : IsiOk K (.ref T.C_Club) (tabCl T.C_Club T.C_Circle) := ⟨fun t b h => by
  unfold tabCl at h
  cases t with
  | obj D =>
    dsimp only at h
    split at h
    · rename_i hc
      cases h
      subst hc
      exact ⟨if_pos (beq_self_eq_true _), fun C z => by cases z; exact T.ok_Club⟩
    · split at h
      · rename_i hc
        cases h
        subst hc
        exact ⟨T.ko_Club_Circle, fun C z => by cases z; exact T.ok_Circle⟩
      · cases h
  | tup => cases h; exact ⟨T.ko_Club_tuple, fun C z => nomatch z⟩
  | str => cases h; exact ⟨T.ko_Club_str, fun C z => nomatch z⟩
  | int => cases h; exact ⟨T.ko_Club_int, fun C z => nomatch z⟩
  | non => cases h; exact ⟨T.ko_Club_NoneType, fun C z => nomatch z⟩
  | _ => cases h⟩
def tsCi (C : Addr) : List Tg := [.obj C]
theorem T61.fst_Circle {K : PySem.W.Frag} {mg : Str → Option Value} (T : T61 K mg) : ∀ t ∈ tsCi T.C_Circle, PySem.W.notFirst K T.C_Circle (tyG t) = true ∧ ∀ C', t = .obj C' → OwnOk K C' := fun t ht => by
  simp only [tsCi, List.mem_cons, List.not_mem_nil, or_false] at ht
  subst ht
  exact ⟨by unfold PySem.W.notFirst; simp [tyG], fun _ z => by cases z; exact T.ok_Circle⟩
def tsCl (C C2 : Addr) : List Tg := [.non, .int, .tup, .str, .obj C, .obj C2]
theorem T61.fst_Club {K : PySem.W.Frag} {mg : Str → Option Value} (T : T61 K mg) : ∀ t ∈ tsCl T.C_Club T.C_Circle, PySem.W.notFirst K T.C_Club (tyG t) = true ∧ ∀ C', t = .obj C' → OwnOk K C' := fun t ht => by
  simp only [tsCl, List.mem_cons, List.not_mem_nil, or_false] at ht
  rcases ht with rfl | rfl | rfl | rfl | rfl | rfl
  · exact ⟨T.nf_Club_NoneType, fun _ z => nomatch z⟩
  · exact ⟨T.nf_Club_int, fun _ z => nomatch z⟩
  · exact ⟨T.nf_Club_tuple, fun _ z => nomatch z⟩
  · exact ⟨T.nf_Club_str, fun _ z => nomatch z⟩
  · exact ⟨by unfold PySem.W.notFirst; simp [tyG], fun _ z => by cases z; exact T.ok_Club⟩
  · exact ⟨T.nf_Club_Circle, fun _ z => by cases z; exact T.ok_Circle⟩
end K61

/-! the plain law: rows of pairs, read in two ways -/
namespace K59
open PySem PySem.Spec PyProof.Rows L2 MP TL
abbrev lets : Str := "abcdefghijklmnopqrstuvwxyz"
def isL (c : Nat) : Bool := decide (c ∈ lets.cps.toList)
def nm (x : Str) : Bool := decide (1 ≤ x.length ∧ x.length ≤ 12) && (tl x).all isL
abbrev Pr := Str × Str
def slt (a b : Str) : Bool := decide (tl a < tl b)
def givs (ps : List Pr) : List Str := ps.map (·.1)
def taks (ps : List Pr) : List Str := ps.map (·.2)
def still (ps : List Pr) : List Str := (ps.filter fun p => !decide (p.2 ∈ givs ps)).map (·.2)
/-- a giver who is not behind the last one -/
def late (ps : List Pr) (a : Str) : Bool := match ps.getLast? with
  | some p => !slt p.1 a
  | none => false
def mayP (ps : List Pr) (ws : List Str) : Bool := match ws with
  | [a, m, b] => decide (m = ">") && nm a && nm b && !(late ps a || decide (b ∈ taks ps)) && (still (ps ++ [(a, b)])).all fun t => slt a t
  | _ => false
def pairOf (ws : List Str) : Pr := (ws.getD 0 Str.empty, ws.getD 2 Str.empty)
def goP : Nat → List Pr → List Str → Nat ⊕ List Pr
  | _, ps, [] => .inr ps
  | n, ps, r :: rs => if mayP ps (Txt.split r " ") = true then goP (n + 1) (ps ++ [pairOf (Txt.split r " ")]) rs else .inl n
def rowsOf (t : Str) : List Str := if t = Str.empty then [] else Txt.split t "\n"
def readP (t : Str) : Nat ⊕ List Pr := match goP 0 [] (rowsOf t) with
  | .inl n => .inl n
  | .inr ps => if still ps = [] then .inr ps else .inl (rowsOf t).length
def mayL (ps : List Pr) (ws : List Str) : Bool := match ws with
  | [a, b] => nm a && nm b && !(late ps a || decide (b ∈ taks ps))
  | _ => false
def pairOfL (ws : List Str) : Pr := (ws.getD 0 Str.empty, ws.getD 1 Str.empty)
def badL (ps : List Pr) (a : Str) : Bool := ps.any fun p => slt p.2 a && !decide (p.2 ∈ givs ps)
def goL : Nat → List Pr → List Str → Nat ⊕ List Pr
  | _, ps, [] => .inr ps
  | n, ps, r :: rs => if mayL ps (Txt.split r " > ") = true then (if badL (ps ++ [pairOfL (Txt.split r " > ")]) (pairOfL (Txt.split r " > ")).1 = true then .inl n else goL (n + 1) (ps ++ [pairOfL (Txt.split r " > ")]) rs) else .inl n
def readL (t : Str) : Nat ⊕ List Pr := match goL 0 [] (rowsOf t) with
  | .inl n => .inl n
  | .inr ps => if (ps.any fun p => !decide (p.2 ∈ givs ps)) = true then .inl (rowsOf t).length else .inr ps
/-! ### texts -/
theorem slt_irrefl (a : Str) : slt a a = false := decide_eq_false (List.lt_irrefl _)
theorem slt_trans {a b c : Str} (h1 : slt a b = true) (h2 : slt b c = true) : slt a c = true :=
  decide_eq_true (List.lt_trans (of_decide_eq_true h1) (of_decide_eq_true h2))
theorem slt_ne {a b : Str} (h : slt a b = true) : a ≠ b := fun e => by rw [e, slt_irrefl] at h; cases h
/-! ### one row -/
/-! ### what is read is drawn -/
structure Ok (ps : List Pr) : Prop where
  nm : ∀ p ∈ ps, K59.nm p.1 = true ∧ K59.nm p.2 = true
  ri : (givs ps).Pairwise fun a b => slt a b = true
  nd : (taks ps).Nodup
theorem cnt_nodup {l : List Str} (h : l.Nodup) : ∀ i, i ≤ l.length → cntS l i = i
  | 0, _ => rfl
  | i + 1, hi => by
    have ih := cnt_nodup h i (by omega)
    have hlt : i < l.length := by omega
    unfold cntS
    rw [if_neg, ih]
    have e : l.getD i Str.empty = l[i] := by simp [hlt]
    rw [e, List.any_eq_true]
    rintro ⟨x, hx, hq⟩
    have ex : x = l[i] := by simpa using hq
    subst ex
    obtain ⟨j, hj, ej⟩ := List.mem_iff_getElem.mp hx
    rw [List.getElem_take] at ej
    have hji : j < i := by simp at hj; omega
    have := (List.getElem_inj h).mp ej
    omega
/-! ### the law's look at names -/
/-! ### sorted -/
def sle (a b : Str) : Bool := decide (tl a ≤ tl b)
theorem leD_str (a b : Str) : leD (.str a) (.str b) = sle a b := by
  have := congrFun (congrFun (PySem.W.dataLe_str (fun x : Str => x)) a) b
  exact this
theorem srt_strs (ys : List Str) (h : ys.length ≤ 100000) : srtOk (ys.map D.str) = true := by
  unfold srtOk
  simp only [Bool.and_eq_true, List.all_eq_true, decide_eq_true_eq, Bool.or_eq_true]
  refine ⟨⟨⟨⟨fun x hx => ?_, fun x hx y hy => ?_⟩, .inr fun x hx => ?_⟩, fun x hx => ?_⟩, by rw [List.length_map]; exact Nat.le_trans h (by decide)⟩
  all_goals obtain ⟨a, _, rfl⟩ := List.mem_map.mp hx
  · rfl
  · obtain ⟨b, _, rfl⟩ := List.mem_map.mp hy
    rfl
  · rfl
  · simp [MP.encD, toPD, PyData.depth]
theorem sorted_strs (S : Sto) (d : D) (ys : List Str) (h : vw S d = .lst (ys.map D.str)) (hl : ys.length ≤ 100000) : gSorted S [d] = some (.lst ((ys.mergeSort sle).map D.str)) := by
  unfold gSorted
  dsimp only
  rw [h]
  dsimp only
  rw [if_pos (srt_strs ys hl)]
  have e := List.map_mergeSort (r := sle) (s := leD) (f := D.str) (l := ys) (fun a _ b _ => (leD_str a b).symm)
  rw [e]
/-! ### a list of texts is itself -/
theorem nm_ok {x : Str} (h : nm x = true) : PyData.strOk x = true := by
  unfold nm at h
  rw [Bool.and_eq_true, List.all_eq_true] at h
  unfold PyData.strOk
  rw [← Array.all_toList, List.all_eq_true]
  intro c hc
  have hb : (lets.cps.toList.all fun c => decide (c < 1000)) = true := by decide
  have := List.all_eq_true.mp hb c (of_decide_eq_true (h.2 c hc))
  have := of_decide_eq_true this
  exact decide_eq_true (by omega)
end K59

/-! the plain law of k06: drawn, in two ways -/
namespace K06
open PySem PySem.Spec PyProof.Rows L2 MP TL K59
def riP (q : Pr × Pr) : Bool := ltP q.1.1 q.1.2 q.2.1 q.2.2
/-- as the program asks -/
def drawnA (ps : List Pr) : Bool := (ps.zip (ps.drop 1)).all riP && decide (cntS (givs ps) ps.length = ps.length) && decide ((taks ps).mergeSort sle = givs ps)
/-- as the law asks -/
def drawnB (ps : List Pr) : Bool := decide (givs ps = srtS (givs ps)) && decide ((taks ps).mergeSort sle = givs ps)
theorem pair_rise : ∀ ps : List Pr, ((givs ps).Pairwise fun a b => slt a b = true) → (ps.zip (ps.drop 1)).all riP = true
  | [], _ => rfl
  | [p], _ => rfl
  | p :: q :: r, h => by
    have h' : (p.1 :: givs (q :: r)).Pairwise fun a b => slt a b = true := h
    rw [List.pairwise_cons] at h'
    have ih := pair_rise (q :: r) h'.2
    have hs := h'.1 q.1 (by simp [givs])
    show (riP (p, q) && ((q :: r).zip r).all riP) = true
    rw [Bool.and_eq_true]
    refine ⟨?_, ih⟩
    unfold riP ltP
    dsimp only
    rw [if_neg (slt_ne hs)]
    exact hs
end K06

/-! a shown text has signs below 0x110000 -/
namespace K06
open PySem PySem.Spec PyProof.Rows L2 MP TL
def Cd (x : Str) : Prop := ∀ c ∈ tl x, c < 0x110000
/-- all its texts are good -/
def CdP : PyData → Prop := fun p => Cd p.shown
theorem Cd.ok {x : Str} (h : Cd x) : PyData.strOk x = true := by
  unfold PyData.strOk
  rw [← Array.all_toList, List.all_eq_true]
  intro c hc
  exact decide_eq_true (h c hc)
end K06

namespace K61
open PySem PySem.Spec PyProof.Rows L2 MP TL
open K59 (Pr nm givs taks slt isL lets nm_ok sle sorted_strs cnt_nodup slt_trans slt_irrefl)
/-! ### pairs of texts -/
def pD (p : Pr) : D := .tup [.str p.1, .str p.2]
def psD (ps : List Pr) : List D := ps.map pD
theorem psD_len (ps : List Pr) : (psD ps).length = ps.length := by simp [psD]
theorem sz {m : Nat} (h : m ≤ 100000) : m ≤ sizeLine := Nat.le_trans h (by decide)
/-- a name with a house, or without one; a pair of names -/
def gdP (p : Pr) : Prop := nm p.1 = true ∧ (p.2 = "" ∨ nm p.2 = true)
theorem gd_ok {p : Pr} (h : gdP p) : PyData.strOk p.1 = true ∧ PyData.strOk p.2 = true := by
  refine ⟨nm_ok h.1, ?_⟩
  rcases h.2 with e | e
  · rw [e]; kernel_rfl
  · exact nm_ok e
theorem psD_inj : ∀ {ps qs : List Pr}, psD ps = psD qs → ps = qs
  | [], [], _ => rfl
  | [], _ :: _, h => by cases h
  | _ :: _, [], h => by cases h
  | (a, b) :: ps, (c, d) :: qs, h => by
    have h' : D.tup [.str a, .str b] :: psD ps = D.tup [.str c, .str d] :: psD qs := h
    injection h' with h1 h2
    injection h1 with h1
    injection h1 with h3 h4
    injection h3 with h3
    injection h4 with h4 _
    injection h4 with h4
    rw [h3, h4, psD_inj h2]
theorem toPDs_ps : ∀ ps : List Pr, toPDs (psD ps) = some (ps.map encP)
  | [] => rfl
  | p :: ps => by
    show (toPD (pD p)).bind _ = _
    have := toPDs_ps ps
    unfold psD at this
    simp [pD, toPD, toPDs, this, encP, psD]
theorem lay_ps : ∀ {ps : List Pr}, (∀ p ∈ ps, gdP p) → PyData.canLayAll0 (ps.map encP) = true ∧ PyData.depthAll (ps.map encP) ≤ 5
  | [], _ => ⟨rfl, by simp [PyData.depthAll]⟩
  | p :: ps, h => by
    obtain ⟨a, b⟩ := lay_ps (ps := ps) fun q hq => h q (by simp [hq])
    have hp := h p (by simp)
    refine ⟨by simp [PyData.canLayAll0, encP, PyData.canLay0, a, (gd_ok hp).1, (gd_ok hp).2], ?_⟩
    simp only [List.map_cons, PyData.depthAll, encP, PyData.depth]
    omega
theorem eqvAll_ps : ∀ ps qs : List Pr, PyData.eqvAll (ps.map encP) (qs.map encP) = decide (ps = qs)
  | [], [] => by simp [PyData.eqvAll]
  | [], _ :: _ => by simp [PyData.eqvAll]
  | _ :: _, [] => by simp [PyData.eqvAll]
  | p :: ps, q :: qs => by
    have ih := eqvAll_ps ps qs
    have hb : PyData.eqv (encP p) (encP q) = decide (p = q) := by
      rw [Bool.eq_iff_iff]
      simp [encP, PyData.eqv, PyData.eqvAll, Prod.ext_iff]
    simp [PyData.eqvAll, ih, hb]
theorem rle_eq {S : Sto} {a b : R D} (h : b = a) : RLe S a b := h ▸ .refl _
theorem st_new {C : Addr} {f : Str} {S : Sto} {fs : List (Str × D)} {d : D} (h : fs.length < 1000) : stFld C f (S ++ [.ins C fs]) (.ref S.length) d = some (S ++ [.ins C (putD f d fs)]) := by
  unfold stFld
  have e : (S ++ [O.ins C fs])[S.length]? = some (.ins C fs) := by simp
  have e2 : (S ++ [O.ins C fs]).set S.length (.ins C (putD f d fs)) = S ++ [.ins C (putD f d fs)] := by simp
  dsimp only
  rw [e]
  dsimp only
  rw [if_pos ⟨rfl, h⟩, e2]
theorem below_ps {n : Nat} : ∀ ps : List Pr, belows n (psD ps) = true
  | [] => rfl
  | p :: ps => by
    show (below n (.tup [.str p.1, .str p.2]) && belows n (psD ps)) = true
    rw [below_ps ps]
    rfl
theorem srt_ps (ks : List Pr) (h : ks.length ≤ 1000) : srtOk (psD ks) = true := by
  unfold srtOk
  simp only [Bool.and_eq_true, List.all_eq_true, decide_eq_true_eq, Bool.or_eq_true]
  refine ⟨⟨⟨⟨fun x hx => ?_, fun x hx y hy => ?_⟩, .inl fun x hx => ?_⟩, fun x hx => ?_⟩, by rw [psD_len]; exact sz (by omega)⟩
  all_goals obtain ⟨a, _, rfl⟩ := List.mem_map.mp hx
  · rfl
  · obtain ⟨b, _, rfl⟩ := List.mem_map.mp hy
    rfl
  · rfl
  · simp [MP.encD, toPD, toPDs, pD, PyData.depth, PyData.depthAll]
theorem leD_pD (p q : Pr) : leD (pD p) (pD q) = leP p q := congrFun (congrFun le_encP p) q
theorem sort_ps (ks : List Pr) : (psD ks).mergeSort leD = psD (ks.mergeSort leP) := by
  have e := List.map_mergeSort (r := leP) (s := leD) (f := pD) (l := ks) (fun a _ b _ => (leD_pD a b).symm)
  exact e.symm
theorem gsort_ok {S : Sto} {L : List Pr} (h : L.length ≤ 1000) : gSorted S [.lst (psD L)] = some (.lst (psD (L.mergeSort leP))) := by
  unfold gSorted
  dsimp only [vw]
  rw [if_pos (srt_ps L h), sort_ps]
theorem kof_str (a : Str) : kOf false (.str a) = some [.inr a] := rfl
def kv2 (ps : List Pr) : List (D × D) := ps.map fun p => (D.str p.1, D.str p.2)
theorem kvs_ps : ∀ ps : List Pr, kvsOf (psD ps) = some (kv2 ps)
  | [] => rfl
  | p :: ps => by
    show (kv1 (pD p)).bind _ = _
    have e : kv1 (pD p) = some (.str p.1, .str p.2) := rfl
    have ih := kvs_ps ps
    unfold psD at ih
    rw [e]
    show (kvsOf (List.map pD ps)).map _ = _
    rw [ih]
    rfl
theorem keys_ps : ∀ ps : List Pr, keysK (kv2 ps) = (givs ps).map Sum.inr
  | [] => rfl
  | p :: ps => by
    have ih := keys_ps ps
    unfold keysK kv2 at ih ⊢
    rw [List.map_cons, List.filterMap_cons_some (f := fun q : D × D => keyOf q.1) (a := (D.str p.1, D.str p.2)) (b := Sum.inr p.1) rfl, ih]
    rfl
theorem look_kv2 : ∀ {ps : List Pr} {p : Pr}, p ∈ ps → (givs ps).Nodup → lookD false (kv2 ps) [.inr p.1] = some (.str p.2)
  | q :: ps, p, hm, hn => by
    have hn' : q.1 ∉ givs ps ∧ (givs ps).Nodup := List.nodup_cons.mp hn
    show (if kOf false (.str q.1) = some [.inr p.1] then some (D.str q.2) else lookD false (kv2 ps) [.inr p.1]) = _
    rcases List.mem_cons.mp hm with h | h
    · rw [h, if_pos (kof_str q.1)]
    · rw [if_neg (fun z => by
        rw [kof_str] at z
        injection z with z
        injection z with z _
        injection z with z
        exact hn'.1 (by rw [z]; exact List.mem_map_of_mem (f := fun p : Pr => p.1) h)), look_kv2 h hn'.2]
def barK (bs : List Pr) : List (D × D) := bs.map fun p => (pD p, D.bl true)
theorem below_strs {n : Nat} : ∀ xs : List Str, belows n (xs.map D.str) = true
  | [] => rfl
  | x :: xs => by
    show (true && belows n (xs.map D.str)) = true
    rw [below_strs xs]
    rfl
theorem below_kv2 {n : Nat} : ∀ ps : List Pr, belowd n (kv2 ps) = true
  | [] => rfl
  | p :: ps => by
    show (true && belowd n (kv2 ps)) = true
    rw [below_kv2 ps]
    rfl
theorem below_bar {n : Nat} : ∀ ps : List Pr, belowd n (barK ps) = true
  | [] => rfl
  | p :: ps => by
    show (true && belowd n (barK ps)) = true
    rw [below_bar ps]
    rfl
theorem fld_new {C : Addr} {f : Str} {S : Sto} {fs : List (Str × D)} {d : D} {ρ : Ev} (h0 : ρ[0]? = some (some (D.ref S.length))) (h : fs.lookup f = some d) : lFld C f (lVar 0) ρ (S ++ [.ins C fs]) = .ok d (S ++ [.ins C fs]) := fld_ok (by unfold lVar; rw [h0]) (by
  unfold gFld
  have e : vw (S ++ [O.ins C fs]) (.ref S.length) = .obj C fs := by unfold vw; dsimp only; rw [show (S ++ [O.ins C fs])[S.length]? = some (.ins C fs) by simp]
  rw [e]
  dsimp only
  rw [if_pos rfl]
  exact h)
theorem kvsT_bar : ∀ bs : List Pr, kvsOfT (bs.map fun p => D.tup [pD p, .bl true]) = some (barK bs)
  | [] => rfl
  | p :: bs => by
    show (kv1T (.tup [pD p, .bl true])).bind (fun q => (kvsOfT (bs.map fun p => D.tup [pD p, .bl true])).map fun r => q :: r) = _
    rw [kvsT_bar bs]
    rfl
theorem keysT_bar : ∀ bs : List Pr, keysT (barK bs) = bs.map fun p => [Sum.inr p.1, Sum.inr p.2]
  | [] => rfl
  | p :: bs => by
    have ih := keysT_bar bs
    unfold keysT barK at ih ⊢
    rw [List.map_cons, List.filterMap_cons_some (f := fun q : D × D => kOf true q.1) (a := (pD p, D.bl true)) (b := [Sum.inr p.1, Sum.inr p.2]) rfl, ih]
    rfl
theorem dictT_ok {S : Sto} {bs : List Pr} (hn : bs.Nodup) (hl : bs.length ≤ 1000) : gDictT S [.lst (bs.map fun p => D.tup [pD p, .bl true])] = some (.dct true (barK bs)) := by
  show (kvsOfT (bs.map fun p => D.tup [pD p, .bl true])).bind _ = _
  rw [kvsT_bar]
  show (if (keysT (barK bs)).Nodup ∧ (barK bs).length ≤ 100000 then some (D.dct true (barK bs)) else none) = _
  refine if_pos ⟨?_, ?_⟩
  · rw [keysT_bar]
    unfold List.Nodup
    rw [List.pairwise_map]
    exact hn.imp fun {a b} q z => q (by
      injection z with z1 z2
      injection z2 with z2 _
      injection z1 with z1
      injection z2 with z2
      exact Prod.ext z1 z2)
  · unfold barK
    rw [List.length_map]
    omega
/-! ### circles -/
def crFs (ms bs : List Pr) (n : Int) : List (Str × D) := [("members", .ftup (psD ms)), ("bars", .ftup (psD bs)), ("past", .ftup []), ("gap", .int n), ("houses", .dct false (kv2 ms)), ("names_told", .tup ((givs ms).map D.str)), ("barred", .dct true (barK bs)), ("gone_by", .dct true [])]
def crD (C : Addr) (ms bs : List Pr) (n : Int) : D := .obj C (crFs ms bs n)
structure GoodC (ms bs : List Pr) (n : Int) : Prop where
  lm : ms.length ≤ 30
  nd : (givs ms).Nodup
  lb : bs.length ≤ 100
  nb : bs.Nodup
  gm : ∀ p ∈ ms, gdP p
  gb : ∀ p ∈ bs, gdP p
  n0 : 0 ≤ n
  n1 : n < 10 ^ 30
theorem dictH_ok {S : Sto} {ms : List Pr} (hn : (givs ms).Nodup) (hl : ms.length ≤ 1000) : gDictK S [.ftup (psD ms)] = some (.dct false (kv2 ms)) := by
  show (kvsOf (psD ms)).bind _ = _
  rw [kvs_ps]
  show (if (keysK (kv2 ms)).Nodup ∧ (kv2 ms).length ≤ 100000 then some (D.dct false (kv2 ms)) else none) = _
  refine if_pos ⟨?_, ?_⟩
  · rw [keys_ps]
    unfold List.Nodup
    rw [List.pairwise_map]
    exact hn.imp fun {a b} q z => q (by injection z)
  · unfold kv2
    rw [List.length_map]
    omega
theorem kv2_keys (ms : List Pr) : (kv2 ms).map (·.1) = (givs ms).map D.str := by
  unfold kv2 givs
  rw [List.map_map, List.map_map]
  rfl
theorem below_cr {n : Nat} (ms bs : List Pr) (k : Int) : belowf n (crFs ms bs k) = true := by
  show (belows n (psD ms) && (belows n (psD bs) && (true && (true && (belowd n (kv2 ms) && (belows n ((givs ms).map D.str) && (belowd n (barK bs) && (true && true)))))))) = true
  rw [below_ps, below_ps, below_kv2, below_strs, below_bar]
  rfl
theorem fz_cr {C : Addr} {S : Sto} {ms bs : List Pr} {k : Int} : crD C ms bs k = fz (S ++ [O.ins C (crFs ms bs k)]) S.length (.ref S.length) := by
  have e : (S ++ [O.ins C (crFs ms bs k)])[S.length]? = some (.ins C (crFs ms bs k)) := by simp
  have e0 : fz0 (S ++ [O.ins C (crFs ms bs k)]) S.length (.ref S.length) = crD C ms bs k := by
    unfold fz0
    dsimp only
    rw [if_neg (Nat.lt_irrefl _)]
    unfold vw
    dsimp only
    rw [e]
    rfl
  unfold fz
  rw [e0]
  rfl
open Classical in
noncomputable def crF (C : Addr) : F := fun ds S => if h : ∃ q : List Pr × List Pr × Int, GoodC q.1 q.2.1 q.2.2 ∧ ds = [.ftup (psD q.1), .ftup (psD q.2.1), .ftup [], .int q.2.2] then .ok (crD C h.choose.1 h.choose.2.1 h.choose.2.2) S else .bad
theorem crF_of {C : Addr} {ms bs : List Pr} {n : Int} {S : Sto} (hg : GoodC ms bs n) : crF C [.ftup (psD ms), .ftup (psD bs), .ftup [], .int n] S = .ok (crD C ms bs n) S := by
  have hx : ∃ q : List Pr × List Pr × Int, GoodC q.1 q.2.1 q.2.2 ∧ [D.ftup (psD ms), D.ftup (psD bs), D.ftup [], D.int n] = [.ftup (psD q.1), .ftup (psD q.2.1), .ftup [], .int q.2.2] := ⟨(ms, bs, n), hg, rfl⟩
  unfold crF
  rw [dif_pos hx]
  have h := hx.choose_spec.2
  generalize hx.choose = q at h ⊢
  injection h with h1 h2
  injection h2 with h2 h3
  injection h3 with _ h4
  injection h4 with h4 _
  injection h1 with h1
  injection h2 with h2
  injection h4 with h4
  rw [psD_inj h1, psD_inj h2, h4]
section
variable {P : Program} {w : World} {K : PySem.W.Frag} {mg : Str → Option Value} {base : Heap}
theorem ok_cinit (T : T61 K mg) : ∃ g, FnL P w K mg base 1 T.f_Circle___init__ T.fd_Circle___init__ ["self", "members", "bars", "past", "gap"] g ∧ ∀ ds S, RLe S (crF T.C_Circle ds S) (mkF T.C_Circle g ds S) := by
  refine ⟨_, FunD.okL T.F_Circle___init__ sc_Circle___init__ fun cdv A outer s H E hr =>
(pssl_cons (psl_fld T.cl_Circle T.na_Circle_members (pel_var (i := 0)) (pel_var (i := 1)))
  (pssl_cons (psl_fld T.cl_Circle T.na_Circle_bars (pel_var (i := 0)) (pel_or (pel_var (i := 2)) (pel_one pel_tup0)))
  (pssl_cons (psl_fld T.cl_Circle T.na_Circle_past (pel_var (i := 0)) (pel_or (pel_var (i := 3)) (pel_one pel_tup0)))
  (pssl_cons (psl_fld T.cl_Circle T.na_Circle_gap (pel_var (i := 0)) (pel_var (i := 4)))
  (pssl_cons (psl_fld T.cl_Circle T.na_Circle_houses (pel_var (i := 0)) (pel_callTy (cl_dictK rfl) rfl T.n_dict (by decide +kernel) (pal_cons (pel_fld T.cl_Circle T.na_Circle_members (pel_var (i := 0))) pal_nil)))
  (pssl_cons (psl_fld T.cl_Circle T.na_Circle_names_told (pel_var (i := 0)) (pel_callTy (cl_tupD rfl) rfl T.n_tuple (by decide +kernel) (pal_cons (pel_fld T.cl_Circle T.na_Circle_houses (pel_var (i := 0))) pal_nil)))
  (pssl_cons (psl_fld T.cl_Circle T.na_Circle_barred (pel_var (i := 0)) (pel_callTy (cl_dictT rfl hr.units) rfl T.n_dict (by decide +kernel) (pal_cons (pel_lc (own := [("pair", 5)]) rfl sc_Circle___init__.nd (pil_val (pel_fld T.cl_Circle T.na_Circle_bars (pel_var (i := 0)))) (blkOk_by (N := N_Circle___init__) (sc := defScope s_Circle___init__) (by decide +kernel)) (fun _ _ _ _ _ => (pgl_name (i := 5) sc_Circle___init__.nd)) (fun _ _ _ _ _ => ptsl_nil) (fun _ _ _ _ _ => (pel_tup (pal_cons (pel_var (i := 5)) (pal_cons pel_bl pal_nil))))) pal_nil)))
  (pssl_cons (psl_fld T.cl_Circle T.na_Circle_gone_by (pel_var (i := 0)) pel_dctT)
  (pssl_one (psl_for (passes_of rfl) rfl (pil_val (pel_slice sll_any (pel_fld T.cl_Circle T.na_Circle_past (pel_var (i := 0))) (pol_some (pel_callB (cl_max2 rfl) rfl T.n_max (by decide +kernel) (pal_cons pel_int (pal_cons (pel_op opl_sub (pel_callB (cl_len) rfl T.n_len (by decide +kernel) (pal_cons (pel_fld T.cl_Circle T.na_Circle_past (pel_var (i := 0))) pal_nil)) (pel_fld T.cl_Circle T.na_Circle_gap (pel_var (i := 0)))) pal_nil)))) pol_none)) (pgl_name (i := 6) sc_Circle___init__.nd) (pssl_one psl_bad))))))))))), fun ds S => ?_⟩
  unfold crF
  split
  · rename_i h
    have hs := h.choose_spec
    generalize h.choose = q at hs ⊢
    obtain ⟨ms, bs, n⟩ := q
    obtain ⟨hg, rfl⟩ := hs
    dsimp only at hg ⊢
    have st : ∀ (f : Str) (d : D) (fs : List (Str × D)) (le : LE) (ρ : Ev), ρ[0]? = some (some (D.ref S.length)) → fs.length < 100 → le ρ (S ++ [.ins T.C_Circle fs]) = .ok d (S ++ [.ins T.C_Circle fs]) → lStF T.C_Circle f (lVar 0) le ρ (S ++ [.ins T.C_Circle fs]) = .ok (.nx ρ) (S ++ [.ins T.C_Circle (putD f d fs)]) := fun f d fs le ρ h0 hl h => stF_ok h (by unfold lVar; rw [h0]) (st_new (by omega))
    have hb : ∀ S', lOrV (lVar 2) lTup0 [some (.ref S.length), some (.ftup (psD ms)), some (.ftup (psD bs)), some (.ftup []), some (.int n), none, none] S' = .ok (.ftup (psD bs)) S' := fun S' => by
      cases bs with
      | nil => exact orv_ff (d := .ftup []) rfl rfl rfl
      | cons p bs => exact orv_tt rfl rfl
    have hp : ∀ S', lOrV (lVar 3) lTup0 [some (.ref S.length), some (.ftup (psD ms)), some (.ftup (psD bs)), some (.ftup []), some (.int n), none, none] S' = .ok (.ftup []) S' := fun S' => orv_ff (d := .ftup []) rfl rfl rfl
    have hmax : ∀ S' : Sto, gMax2 S' [.int 0, .int (0 - n)] = some (.int 0) := fun S' => by
      show some (D.int (if 0 - n > 0 then 0 - n else 0)) = _
      rw [if_neg (by have := hg.n0; omega)]
    unfold mkF
    rw [body_nx (ds := [.ref S.length, .ftup (psD ms), .ftup (psD bs), .ftup [], .int n]) (S' := S ++ [O.ins T.C_Circle (crFs ms bs n)])
      (seq_nx (st "members" (.ftup (psD ms)) [] _ _ rfl (Nat.le_of_ble_eq_true rfl) rfl)
      (seq_nx (st "bars" (.ftup (psD bs)) _ _ _ rfl (Nat.le_of_ble_eq_true rfl) (hb _))
      (seq_nx (st "past" (.ftup []) _ _ _ rfl (Nat.le_of_ble_eq_true rfl) (hp _))
      (seq_nx (st "gap" (.int n) _ _ _ rfl (Nat.le_of_ble_eq_true rfl) rfl)
      (seq_nx (st "houses" (.dct false (kv2 ms)) _ _ _ rfl (Nat.le_of_ble_eq_true rfl) (callb_ok (acons_ok (fld_new rfl rfl) rfl) (dictH_ok hg.nd (by have := hg.lm; omega))))
      (seq_nx (st "names_told" (.tup ((givs ms).map D.str)) _ _ _ rfl (Nat.le_of_ble_eq_true rfl) (callb_ok (acons_ok (fld_new rfl rfl) rfl) (show some (D.tup ((kv2 ms).map (·.1))) = _ by rw [kv2_keys])))
      (seq_nx (st "barred" (.dct true (barK bs)) _ _ _ rfl (Nat.le_of_ble_eq_true rfl) (callb_ok (acons_ok (comp_okL (iter_ok (fld_new rfl rfl) rfl) (by have := hg.lb; rw [psD_len]; omega) (comp_map (enc := pD) (f := fun p => D.tup [pD p, .bl true]) trivial bs fun p hp => ⟨_, rfl, tup_ok (acons_ok rfl (acons_ok rfl rfl)) (by simp)⟩)) rfl) (dictT_ok hg.nb (by have := hg.lb; omega))))
      (seq_nx (st "gone_by" (.dct true []) _ _ _ rfl (Nat.le_of_ble_eq_true rfl) rfl)
      (for_ok (iter_ok (slice_ok (fld_new rfl rfl) (osome_ok (callb_ok (acons_ok rfl (acons_ok (bin_ok (callb_ok (acons_ok (fld_new rfl rfl) rfl) rfl) (fld_new rfl rfl) rfl) rfl)) (hmax _))) rfl rfl) rfl) (for_end trivial)))))))))), bind_ok]
    refine .gc _ _ _ (by simp) fz_cr ?_
    exact below_cr ms bs n
  · exact .bad _
end
end K61

namespace K61
open PySem PySem.Spec PyProof.Rows L2 MP TL in
theorem len_lst {S : MP.Sto} {xs : List MP.D} : MP.gLen S [.lst xs] = some (.int (xs.length : Int)) := rfl
open PySem PySem.Spec PyProof.Rows L2 MP TL
/-! ### the draws -/
def PotAt (j : Nat) (n : Int) (S : Sto) : Prop := ∃ dig seed cnt : Int, S[j]? = some (.lst [.int dig, .int seed, .int cnt]) ∧ 0 ≤ seed ∧ seed < 10 ^ 30 ∧ 0 ≤ cnt ∧ cnt ≤ n
def Keep (j : Nat) (S S' : Sto) : Prop := S.length ≤ S'.length ∧ ∀ k, k ≠ j → k < S.length → S'[k]? = S[k]?
theorem Keep.refl {j : Nat} {S : Sto} : Keep j S S := ⟨Nat.le_refl _, fun _ _ _ => rfl⟩
theorem Keep.trans {j : Nat} {S S1 S2 : Sto} (h1 : Keep j S S1) (h2 : Keep j S1 S2) : Keep j S S2 := ⟨Nat.le_trans h1.1 h2.1, fun k hk hl => (h2.2 k hk (Nat.lt_of_lt_of_le hl h1.1)).trans (h1.2 k hk hl)⟩
theorem Keep.get {j i : Nat} {S S' : Sto} {o : O} (h : Keep j S S') (hi : S[i]? = some o) (hj : i ≠ j) : S'[i]? = some o := by
  rw [h.2 i hj (List.getElem?_eq_some_iff.mp hi).1]; exact hi
theorem Keep.set {j : Nat} {S : Sto} {o : O} : Keep j S (S.set j o) := ⟨by simp, fun k hk _ => List.getElem?_set_ne (Ne.symm hk)⟩
theorem Keep.push {j : Nat} {S : Sto} {o : O} : Keep j S (S ++ [o]) := ⟨by simp, fun k _ hl => List.getElem?_append_left hl⟩
theorem PotAt.mono {j : Nat} {n m : Int} {S : Sto} (h : PotAt j n S) (hm : n ≤ m) : PotAt j m S := by
  obtain ⟨a, b, c, h1, h2, h3, h4, h5⟩ := h
  exact ⟨a, b, c, h1, h2, h3, h4, by omega⟩
theorem PotAt.lt {j : Nat} {n : Int} {S : Sto} (h : PotAt j n S) : j < S.length := by
  obtain ⟨a, b, c, h1, _⟩ := h
  exact (List.getElem?_eq_some_iff.mp h1).1
theorem PotAt.push {j : Nat} {n : Int} {S : Sto} {o : O} (h : PotAt j n S) : PotAt j n (S ++ [o]) := by
  have hl := h.lt
  obtain ⟨a, b, c, h1, h2⟩ := h
  exact ⟨a, b, c, by rw [List.getElem?_append_left hl]; exact h1, h2⟩
theorem PotAt.set {j i : Nat} {n : Int} {S : Sto} {o : O} (h : PotAt j n S) (hi : i ≠ j) : PotAt j n (S.set i o) := by
  obtain ⟨a, b, c, h1, h2⟩ := h
  exact ⟨a, b, c, by rw [List.getElem?_set_ne hi]; exact h1, h2⟩
def SPot (g : F) : Prop := ∀ (S : Sto) (ns : List Int) (k : Int), ns.length ≤ 63 → 0 ≤ k → k ≤ 7 → ∃ S', g [.lst (ns.map D.int), .int k] S = .ok (.ref S.length) S' ∧ PotAt S.length 0 S' ∧ S'.length = S.length + 1 ∧ S'.take S.length = S
def SPick (g : F) : Prop := ∀ (n : Int) (S : Sto) (j : Nat) (wd : Int), PotAt j n S → n < 10 ^ 29 → 0 < wd → wd < 10 ^ 6 → ∃ v S', g [.ref j, .int wd] S = .ok (.int v) S' ∧ 0 ≤ v ∧ v < wd ∧ PotAt j (n + 1) S' ∧ Keep j S S'
def SOf (g : F) : Prop := ∀ (n : Int) (S : Sto) (j : Nat) (d : D) (l : Int) (Q : D → Prop), PotAt j n S → n < 10 ^ 29 → gLen S [d] = some (.int l) → 0 < l → l < 10 ^ 6 → (∀ S' v, Keep j S S' → 0 ≤ v → v < l → ∃ y, gIx S' d (.int v) = some y ∧ Q y) → ∃ y S', g [.ref j, d] S = .ok y S' ∧ Q y ∧ PotAt j (n + 1) S' ∧ Keep j S S'
section
variable {P : Program} {w : World} {K : PySem.W.Frag} {mg : Str → Option Value} {base : Heap}
theorem ok_pot (T : T61 K mg) : ∃ g, FnL P w K mg base 1 T.f__law_pot T.fd__law_pot ["_law_script", "_law_k"] g ∧ SPot g := by
  refine ⟨_, Fun.okL T.F__law_pot sc__law_pot fun cdv A outer s H E hr =>
(pssl_cons (psl_set (i := 2) sc__law_pot.nd (pel_ifExp (ptl_cmp opl_gt2 (pel_callB (cl_len) rfl T.n_len (by decide +kernel) (pal_cons (pel_var (i := 0)) pal_nil)) pel_int) (pel_ix ixl_seq (pel_var (i := 0)) (pel_op opl_mod (pel_var (i := 1)) (pel_callB (cl_len) rfl T.n_len (by decide +kernel) (pal_cons (pel_var (i := 0)) pal_nil)))) pel_int))
  (pssl_cons (psl_set (i := 3) sc__law_pot.nd (pel_op opl_mod (pel_op opl_mul (pel_op opl_add2 (pel_op opl_add2 (pel_op opl_mod (pel_var (i := 2)) (pel_op opl_pow pel_int pel_int)) (pel_op opl_mul (pel_op opl_mul pel_int (pel_var (i := 1))) (pel_var (i := 1)))) pel_int) pel_int) pel_int))
  (pssl_one (psl_ret (pel_lstN (pal_cons (pel_op opl_mul (pel_op opl_mod (pel_var (i := 2)) (pel_op opl_powB (pel_op opl_pow pel_int pel_int) pel_int)) (pel_callTy (cl_int1) rfl T.n_int (by decide +kernel) (pal_cons (pel_cmp opl_geI (pel_var (i := 2)) (pel_op opl_pow pel_int pel_int)) pal_nil))) (pal_cons (pel_var (i := 3)) (pal_cons pel_int pal_nil)))))))), ?_⟩
  intro S ns k hn k0 k1
  have bb : (10 : Int) ^ 30 < 10 ^ 100 ∧ (10 : Int) ^ 100 ≤ 10 ^ 250 ∧ (2305843009213693951 : Int) < 10 ^ 30 ∧ (7919 : Int) * 7 * 7 + 11 < 10 ^ 30 ∧ (7919 : Int) * 7 < 10 ^ 30 ∧ (1000 : Int) < 10 ^ 30 := by decide +kernel
  obtain ⟨bb1, bb2, bb3, bb4, bb5, bb6⟩ := bb
  -- the cell
  have hcell : ∃ c : Int, lIf (tTru (lBin gGt2 (lCallB gLen (aCons (lVar 0) aNil)) (lC (.int 0)))) (lBin gIx (lVar 0) (lBin gMod (lVar 1) (lCallB gLen (aCons (lVar 0) aNil)))) (lC (.int 0)) [some (.lst (ns.map D.int)), some (.int k), none, none] S = .ok (.int c) S := by
    have hl : lCallB gLen (aCons (lVar 0) aNil) [some (.lst (ns.map D.int)), some (.int k), none, none] S = .ok (.int (ns.length : Int)) S := callb_ok (acons_ok rfl rfl) (len_lst.trans (by rw [List.length_map]))
    by_cases h : 0 < ns.length
    · have hm0 := Int.emod_nonneg k (b := (ns.length : Int)) (by omega)
      have hm1 := Int.emod_lt_of_pos k (b := (ns.length : Int)) (by omega)
      have hv : (k % (ns.length : Int)).toNat < ns.length := by omega
      refine ⟨ns[(k % (ns.length : Int)).toNat], ife_tt (tru_b (bin_ok hl rfl rfl) (decide_eq_true (by omega))) (bin_ok rfl (bin_ok rfl hl (mod_ii (by omega))) ?_)⟩
      show atI (ns.map D.int) (k % (ns.length : Int)) = _
      unfold atI ixN
      rw [List.length_map, if_pos hm0, if_pos hm1]
      show (ns.map D.int)[(k % (ns.length : Int)).toNat]? = _
      rw [List.getElem?_map, List.getElem?_eq_getElem hv]
      rfl
    · exact ⟨0, ife_ff (tru_b (bin_ok hl rfl rfl) (decide_eq_false (by omega))) rfl⟩
  obtain ⟨c, hc⟩ := hcell
  have smk : Sm k := sml k0 (by omega)
  have kk : 0 ≤ 7919 * k * k ∧ 7919 * k * k ≤ 7919 * 7 * 7 := ⟨Int.mul_nonneg (by omega) k0, Int.le_trans (Int.mul_le_mul_of_nonneg_right (show 7919 * k ≤ 7919 * 7 by omega) k0) (by omega)⟩
  have c0 := Int.emod_nonneg c (b := (10 : Int) ^ (30 : Int).toNat) (by decide +kernel)
  have c1 : c % (10 : Int) ^ (30 : Int).toNat < 10 ^ 30 := Int.emod_lt_of_pos c (b := (10 : Int) ^ (30 : Int).toNat) (by decide +kernel)
  have b31 : (10 : Int) ^ 30 + 10 ^ 30 < 10 ^ 100 := by decide +kernel
  have g1 := set_ok (i := 3) (S := S) (ρ := [some (.lst (ns.map D.int)), some (.int k), some (.int c), none]) (bin_ok (bin_ok (bin_ok (bin_ok (bin_ok (la := lVar 2) rfl (bin_ok (la := lC (.int 10)) (lb := lC (.int 30)) rfl rfl (pow_ii ⟨by decide, by decide, by decide⟩)) (mod_ii (by decide +kernel))) (bin_ok (bin_ok (la := lC (.int 7919)) (lb := lVar 1) rfl rfl (mul_ii (sml (by decide) (by decide +kernel)) smk)) (lb := lVar 1) rfl (mul_ii (sml (by omega) (by omega)) smk)) add2_ii) (lb := lC (.int 11)) rfl add2_ii) (lb := lC (.int 1181783497276652981)) rfl (mul_ii (sml (by omega) (by omega)) (sml (by decide) (by decide +kernel)))) (lb := lC (.int 2305843009213693951)) rfl (mod_ii (by decide)))
  have s0 := Int.emod_nonneg ((c % (10 : Int) ^ (30 : Int).toNat + 7919 * k * k + 11) * 1181783497276652981) (b := 2305843009213693951) (by decide)
  have s1 := Int.emod_lt_of_pos ((c % (10 : Int) ^ (30 : Int).toNat + 7919 * k * k + 11) * 1181783497276652981) (b := 2305843009213693951) (by decide)
  generalize (c % (10 : Int) ^ (30 : Int).toNat + 7919 * k * k + 11) * 1181783497276652981 % 2305843009213693951 = sd at g1 s0 s1
  have hN : gPowB S (.int ((10 : Int) ^ (60 : Int).toNat)) (.int 12) = some (.int (((10 : Int) ^ (60 : Int).toNat) ^ (12 : Int).toNat)) := by
    show (if 0 ≤ (12 : Int) ∧ (PySem.Builtin.Int.intBits ((10 : Int) ^ (60 : Int).toNat) : Int) * 12 ≤ 2 ^ 27 then some (D.int (((10 : Int) ^ (60 : Int).toNat) ^ (12 : Int).toNat)) else none) = _
    exact if_pos (by decide +kernel)
  have hN0 : 0 < ((10 : Int) ^ (60 : Int).toNat) ^ (12 : Int).toNat := by decide +kernel
  have hN1 : (((10 : Int) ^ (60 : Int).toNat) ^ (12 : Int).toNat).natAbs < 2 ^ 2500 := by decide +kernel
  have d0 := Int.emod_nonneg c (b := ((10 : Int) ^ (60 : Int).toNat) ^ (12 : Int).toNat) (by omega)
  have d1 := Int.emod_lt_of_pos c hN0
  have hd : lBin gMod (lVar 2) (lBin gPowB (lBin gPow (lC (.int 10)) (lC (.int 60))) (lC (.int 12))) [some (.lst (ns.map D.int)), some (.int k), some (.int c), some (.int sd)] S = .ok (.int (c % ((10 : Int) ^ (60 : Int).toNat) ^ (12 : Int).toNat)) S := bin_ok rfl (bin_ok (bin_ok rfl rfl (pow_ii ⟨by decide, by decide, by decide⟩)) rfl hN) (mod_ii hN0)
  generalize ((10 : Int) ^ (60 : Int).toNat) ^ (12 : Int).toNat = N at hd d0 d1 hN0 hN1
  have hlg : (c % N).natAbs.log2 < 2500 := lg_lt (Nat.lt_trans (by omega) hN1) (by decide)
  have hge : ∃ b : Bool, lBin gGeI (lVar 2) (lBin gPow (lC (.int 10)) (lC (.int 18))) [some (.lst (ns.map D.int)), some (.int k), some (.int c), some (.int sd)] S = .ok (.bl b) S := ⟨_, bin_ok rfl (bin_ok rfl rfl (pow_ii ⟨by decide, by decide, by decide⟩)) rfl⟩
  obtain ⟨b, hge⟩ := hge
  have hmul : ∃ dg : Int, gMulI S (.int (c % N)) (.int (if b then 1 else 0)) = some (.int dg) := by
    refine ⟨_, if_pos ?_⟩
    have : (if b then (1 : Int) else 0).natAbs.log2 = 0 := by cases b <;> decide
    omega
  obtain ⟨dg, hmul⟩ := hmul
  refine ⟨S ++ [.lst [.int dg, .int sd, .int 0]], body_rt (seq_nx (set_ok hc) (seq_nx g1 (ret_ok (lstN_ok (acons_ok (bin_ok hd (callb_ok (acons_ok hge rfl) rfl) hmul) (acons_ok rfl (acons_ok rfl rfl))) (by simp))))), ⟨dg, sd, 0, last_at, s0, by omega, by omega, by omega⟩, by simp, by simp⟩
theorem ok_pick (T : T61 K mg) : ∃ g, FnL P w K mg base 1 T.f__law_pick T.fd__law_pick ["_law_pot_here", "_law_most"] g ∧ SPick g := by
  refine ⟨_, Fun.okL T.F__law_pick sc__law_pick fun cdv A outer s H E hr =>
(pssl_cons (psl_if (ptl_cmp opl_gt2 (pel_ix ixl_seq (pel_var (i := 0)) pel_int) pel_int) (pssl_cons (psl_set (i := 2) sc__law_pick.nd (pel_op opl_mod (pel_ix ixl_seq (pel_var (i := 0)) pel_int) (pel_var (i := 1))))
  (pssl_cons (psl_sub psetl_seq (pel_var (i := 0)) pel_int (pel_op opl_div (pel_ix ixl_seq (pel_var (i := 0)) pel_int) (pel_var (i := 1))))
  (pssl_one (psl_ret (pel_var (i := 2)))))) pssl_nil)
  (pssl_cons (psl_sub psetl_seq (pel_var (i := 0)) pel_int (pel_op opl_add2 (pel_ix ixl_seq (pel_var (i := 0)) pel_int) pel_int))
  (pssl_cons (psl_set (i := 3) sc__law_pick.nd (pel_op opl_add2 (pel_op opl_mul pel_int (pel_ix ixl_seq (pel_var (i := 0)) pel_int)) pel_int))
  (pssl_cons (psl_sub psetl_seq (pel_var (i := 0)) pel_int (pel_op opl_mod (pel_op opl_add2 (pel_op opl_mul (pel_ix ixl_seq (pel_var (i := 0)) pel_int) pel_int) (pel_var (i := 3))) pel_int))
  (pssl_cons (psl_set (i := 4) sc__law_pick.nd (pel_op opl_mod (pel_op opl_mul (pel_ix ixl_seq (pel_var (i := 0)) pel_int) (pel_op opl_add2 (pel_op opl_mod (pel_ix ixl_seq (pel_var (i := 0)) pel_int) pel_int) (pel_op opl_mul pel_int (pel_ix ixl_seq (pel_var (i := 0)) pel_int)))) pel_int))
  (pssl_one (psl_ret (pel_op opl_mod (pel_op opl_div (pel_var (i := 4)) pel_int) (pel_var (i := 1)))))))))), ?_⟩
  intro n S j wd hp hn w0 w1
  obtain ⟨dig, seed, cnt, hj, s0, s1, c0, c1⟩ := hp
  have bb : (10 : Int) ^ 6 ≤ 10 ^ 100 ∧ (10 : Int) ^ 29 + 1 < 10 ^ 100 ∧ (10 : Int) ^ 30 < 10 ^ 100 ∧ (10 : Int) ^ 29 + 1 < 10 ^ 30 ∧ (2305843009213693951 : Int) < 10 ^ 30 ∧ (7919 : Int) * 10 ^ 30 + 1000003 < 10 ^ 100 := by decide +kernel
  obtain ⟨bb1, bb2, bb3, bb4, bb5, bb6⟩ := bb
  have smw : Sm wd := sml (by omega) (by omega)
  by_cases hd : 0 < dig
  · have g3 := set_ok (i := 2) (ρ := [some (.ref j), some (.int wd), none, none, none]) (bin_ok (lx (i := 0) (k := 0) hj rfl rfl) (lb := lVar 1) rfl (mod_ii (i := dig) w0))
    have g4 := stS_ok (ρ := [some (.ref j), some (.int wd), some (.int (dig % wd)), none, none]) (lo := lVar 0) (li := lC (.int 0)) (bin_ok (lx (i := 0) (k := 0) hj rfl rfl) (lb := lVar 1) rfl (div_ii (i := dig) w0 smw)) rfl rfl (sub_ok (n := 0) (d := .int (dig / wd)) hj rfl)
    refine ⟨dig % wd, _, body_rt (seq_rt (if_tt (tru_b (bin_ok (lx hj rfl rfl) rfl rfl) (decide_eq_true hd)) (seq_nx g3 (seq_nx g4 (ret_ok rfl))))), Int.emod_nonneg _ (Int.ne_of_gt w0), Int.emod_lt_of_pos _ w0, ⟨dig / wd, seed, cnt, set_self hj, s0, s1, c0, by omega⟩, Keep.set⟩
  · have g1 := stS_ok (ρ := [some (.ref j), some (.int wd), none, none, none]) (lo := lVar 0) (li := lC (.int 2)) (bin_ok (lx (i := 0) (k := 2) hj rfl rfl) (lb := lC (.int 1)) rfl add2_ii) rfl rfl (sub_ok (n := 2) (d := .int (cnt + 1)) hj rfl)
    have hj1 := set_self (o' := .lst [.int dig, .int seed, .int (cnt + 1)]) hj
    have k1 : Keep j S (S.set j (.lst [.int dig, .int seed, .int (cnt + 1)])) := Keep.set
    have g1' : lStS stSeq (lVar 0) (lC (.int 2)) (lBin gAdd2 (lBin gIx (lVar 0) (lC (.int 2))) (lC (.int 1))) [some (.ref j), some (.int wd), none, none, none] S = .ok (.nx [some (.ref j), some (.int wd), none, none, none]) (S.set j (.lst [.int dig, .int seed, .int (cnt + 1)])) := g1
    generalize S.set j (.lst [.int dig, .int seed, .int (cnt + 1)]) = S1 at g1' hj1 k1
    have smc : Sm (cnt + 1) := sml (by omega) (by omega)
    have g2 := set_ok (i := 3) (S := S1) (ρ := [some (.ref j), some (.int wd), none, none, none]) (bin_ok (bin_ok (la := lC (.int 1442695040888963407)) rfl (lx (i := 0) (k := 2) hj1 rfl rfl) (mul_ii (sml (by decide) (by decide +kernel)) smc)) (lb := lC (.int 11)) rfl add2_ii)
    generalize 1442695040888963407 * (cnt + 1) + 11 = st at g2
    have g3 := stS_ok (ρ := [some (.ref j), some (.int wd), none, some (.int st), none]) (lo := lVar 0) (li := lC (.int 1)) (bin_ok (bin_ok (bin_ok (lx (i := 0) (k := 1) hj1 rfl rfl) (lb := lC (.int 6364136223846793005)) rfl (mul_ii (sml s0 (by omega)) (sml (by decide) (by decide +kernel)))) (lb := lVar 3) rfl add2_ii) (lb := lC (.int 2305843009213693951)) rfl (mod_ii (by decide))) rfl rfl (sub_ok (n := 1) (d := .int ((seed * 6364136223846793005 + st) % 2305843009213693951)) hj1 rfl)
    have t0 := Int.emod_nonneg (seed * 6364136223846793005 + st) (b := 2305843009213693951) (by decide)
    have t1 := Int.emod_lt_of_pos (seed * 6364136223846793005 + st) (b := 2305843009213693951) (by decide)
    generalize (seed * 6364136223846793005 + st) % 2305843009213693951 = sd at g3 t0 t1
    have hj2 := set_self (o' := .lst [.int dig, .int sd, .int (cnt + 1)]) hj1
    have k2 : Keep j S1 (S1.set j (.lst [.int dig, .int sd, .int (cnt + 1)])) := Keep.set
    have g3' : lStS stSeq (lVar 0) (lC (.int 1)) (lBin gMod (lBin gAdd2 (lBin gMulI (lBin gIx (lVar 0) (lC (.int 1))) (lC (.int 6364136223846793005))) (lVar 3)) (lC (.int 2305843009213693951))) [some (.ref j), some (.int wd), none, some (.int st), none] S1 = .ok (.nx [some (.ref j), some (.int wd), none, some (.int st), none]) (S1.set j (.lst [.int dig, .int sd, .int (cnt + 1)])) := g3
    generalize S1.set j (.lst [.int dig, .int sd, .int (cnt + 1)]) = S2 at g3' hj2 k2
    have q0 := Int.emod_nonneg sd (b := 1000003) (by decide)
    have q1 := Int.emod_lt_of_pos sd (b := 1000003) (by decide)
    have g4 := set_ok (i := 4) (S := S2) (ρ := [some (.ref j), some (.int wd), none, some (.int st), none]) (bin_ok (bin_ok (lx (i := 0) (k := 1) hj2 rfl rfl) (bin_ok (bin_ok (lx (i := 0) (k := 1) hj2 rfl rfl) (lb := lC (.int 1000003)) rfl (mod_ii (by decide))) (bin_ok (la := lC (.int 7919)) rfl (lx (i := 0) (k := 2) hj2 rfl rfl) (mul_ii (sml (by decide) (by decide +kernel)) smc)) add2_ii) (mul_ii (sml t0 (by omega)) (sml (by omega) (by omega)))) (lb := lC (.int 2305843009213693921)) rfl (mod_ii (by decide)))
    generalize sd * (sd % 1000003 + 7919 * (cnt + 1)) % 2305843009213693921 = tw at g4
    exact ⟨tw / 131071 % wd, S2, body_rt (seq_nx (if_ff (tru_b (bin_ok (lx hj rfl rfl) rfl rfl) (decide_eq_false hd)) rfl) (seq_nx g1' (seq_nx g2 (seq_nx g3' (seq_nx g4 (ret_ok (bin_ok (bin_ok rfl rfl (div_ii (by decide) (sml (by decide) (by decide +kernel)))) rfl (mod_ii w0)))))))), Int.emod_nonneg _ (Int.ne_of_gt w0), Int.emod_lt_of_pos _ w0, ⟨dig, sd, cnt + 1, hj2, t0, by omega, by omega, by omega⟩, k1.trans k2⟩
theorem ok_of (T : T61 K mg) : ∃ g, FnL P w K mg base 2 T.f__law_of T.fd__law_of ["_law_pot_here", "_law_some"] g ∧ SOf g := by
  obtain ⟨gp, Fn__law_pick, Sp⟩ := ok_pick (P := P) (w := w) (base := base) T
  refine ⟨_, Fun.okL T.F__law_of sc__law_of fun cdv A outer s H E hr =>
(pssl_one (psl_ret (pel_ix ixl_seq (pel_var (i := 1)) (pel_call Fn__law_pick (hr.mono (by decide)) rfl T.mg__law_pick T.F__law_pick.kp T.b__law_pick dfl_nil (pal_cons (pel_var (i := 0)) (pal_cons (pel_callB (cl_len) rfl T.n_len (by decide +kernel) (pal_cons (pel_var (i := 1)) pal_nil)) pal_nil)))))), ?_⟩
  intro n S j d l Q hp hn hl l0 l1 hQ
  obtain ⟨v, S', e, v0, v1, hp', hk⟩ := Sp n S j l hp hn l0 l1
  obtain ⟨y, hy, q⟩ := hQ S' v hk v0 v1
  exact ⟨y, S', body_rt (ret_ok (bin_ok rfl (call_ok (acons_ok rfl (acons_ok (callb_ok (acons_ok rfl rfl) hl) rfl)) rfl e) hy)), q, hp', hk⟩
end
end K61

namespace K61
open PySem PySem.Spec PyProof.Rows L2 MP TL
open K59 (Pr nm givs taks slt isL lets nm_ok sle sorted_strs cnt_nodup slt_trans slt_irrefl)
/-! ### circles: ==, text, a member less -/
theorem fld_ci {C : Addr} {S : Sto} {ρ : Ev} {i : Nat} {f : Str} {ms bs : List Pr} {n : Int} {d : D} (h : ρ[i]? = some (some (crD C ms bs n))) (hf : (crFs ms bs n).lookup f = some d) : lFld C f (lVar i) ρ S = .ok d S := fld_ok (d := crD C ms bs n) (by unfold lVar; rw [h]) (by
  show (if C = C then (crFs ms bs n).lookup f else none) = _
  rw [if_pos rfl]
  exact hf)
theorem recv_ci {C : Addr} {S : Sto} {ms bs : List Pr} {n : Int} {mn : Str} (h : (["members", "bars", "past", "gap", "houses", "names_told", "barred", "gone_by"] : List Str).contains mn = false) : recv C mn S (crD C ms bs n) = true := by
  show (decide (C = C) && ((crFs ms bs n).lookup mn).isNone) = true
  rw [decide_eq_true rfl]
  have e : ∀ fs : List (Str × D), (fs.map (·.1)).contains mn = false → fs.lookup mn = none := by
    intro fs
    induction fs with
    | nil => exact fun _ => rfl
    | cons q fs ih =>
      intro h
      obtain ⟨k, v⟩ := q
      simp only [List.map_cons, List.contains_cons, Bool.or_eq_false_iff] at h
      rw [List.lookup_cons, h.1]
      exact ih h.2
  rw [e (crFs ms bs n) h]
  rfl
open Classical in
noncomputable def ciOf (C : Addr) (d : D) : Option (List Pr × List Pr × Int) := if h : ∃ q : List Pr × List Pr × Int, GoodC q.1 q.2.1 q.2.2 ∧ d = crD C q.1 q.2.1 q.2.2 then some h.choose else none
theorem crD_inj {C : Addr} {ms bs ms' bs' : List Pr} {n n' : Int} (h : crD C ms bs n = crD C ms' bs' n') : ms = ms' ∧ bs = bs' ∧ n = n' := by
  unfold crD crFs at h
  injection h with _ h
  injection h with h1 h
  injection h with h2 h
  injection h with _ h
  injection h with h4 _
  injection h1 with _ h1
  injection h2 with _ h2
  injection h4 with _ h4
  injection h1 with h1
  injection h2 with h2
  injection h4 with h4
  exact ⟨psD_inj h1, psD_inj h2, h4⟩
theorem ciOf_of {C : Addr} {ms bs : List Pr} {n : Int} (h : GoodC ms bs n) : ciOf C (crD C ms bs n) = some (ms, bs, n) := by
  have hx : ∃ q : List Pr × List Pr × Int, GoodC q.1 q.2.1 q.2.2 ∧ crD C ms bs n = crD C q.1 q.2.1 q.2.2 := ⟨(ms, bs, n), h, rfl⟩
  unfold ciOf
  rw [dif_pos hx]
  have z := hx.choose_spec.2
  generalize hx.choose = q at z ⊢
  obtain ⟨a, b, c⟩ := q
  obtain ⟨rfl, rfl, rfl⟩ := crD_inj z
  rfl
theorem ciOf_inv {C : Addr} {d : D} {q : List Pr × List Pr × Int} (h : ciOf C d = some q) : d = crD C q.1 q.2.1 q.2.2 ∧ GoodC q.1 q.2.1 q.2.2 := by
  unfold ciOf at h
  split at h
  · rename_i hx
    cases h
    exact ⟨hx.choose_spec.2, hx.choose_spec.1⟩
  · cases h
noncomputable def gpCi (C : Addr) : G2 := fun S x y => (ciOf C x).bind fun a => (ciOf C y).bind fun b => some (.bl (decide (a = b)))
theorem gpCi_of {C : Addr} {S : Sto} {ms bs ms' bs' : List Pr} {n n' : Int} (h : GoodC ms bs n) (h' : GoodC ms' bs' n') : gpCi C S (crD C ms bs n) (crD C ms' bs' n') = some (.bl (decide ((ms, bs, n) = (ms', bs', n')))) := by
  unfold gpCi
  rw [ciOf_of h, ciOf_of h']
  rfl
theorem eq3 {S : Sto} {ms bs ms' bs' : List Pr} (h1 : ∀ p ∈ ms, gdP p) (h2 : ∀ p ∈ bs, gdP p) (h3 : ∀ p ∈ ms', gdP p) (h4 : ∀ p ∈ bs', gdP p) :
    gEq S (.tup [.ftup (psD ms), .ftup (psD bs), .ftup []]) (.tup [.ftup (psD ms'), .ftup (psD bs'), .ftup []]) = some (.bl (decide (ms = ms' ∧ bs = bs'))) := by
  have e1 : ∀ a b : List Pr, toPD (.tup [.ftup (psD a), .ftup (psD b), .ftup []]) = some (.tuple [.tuple (a.map encP), .tuple (b.map encP), .tuple []]) := fun a b => by simp [toPD, toPDs, toPDs_ps]
  have sh : ∀ {a b : List Pr}, (∀ p ∈ a, gdP p) → (∀ p ∈ b, gdP p) → SeqAt.shaped (.tuple [.tuple (a.map encP), .tuple (b.map encP), .tuple []]) = true := fun ha hb => by
    unfold SeqAt.shaped
    obtain ⟨a1, b1⟩ := lay_ps ha
    obtain ⟨a2, b2⟩ := lay_ps hb
    rw [Bool.and_eq_true]
    refine ⟨by simp [PyData.canLay0, PyData.canLayAll0, a1, a2], decide_eq_true ?_⟩
    simp only [PyData.depth, PyData.depthAll]
    omega
  have e : eqP S (.tup [.ftup (psD ms), .ftup (psD bs), .ftup []]) (.tup [.ftup (psD ms'), .ftup (psD bs'), .ftup []]) = some (decide (ms = ms' ∧ bs = bs')) := by
    unfold eqP
    dsimp only [vw]
    rw [e1, e1]
    show (if _ ∧ _ then some (PyData.eqv (.tuple [.tuple (ms.map encP), .tuple (bs.map encP), .tuple []]) (.tuple [.tuple (ms'.map encP), .tuple (bs'.map encP), .tuple []])) else none) = _
    rw [if_pos ⟨sh h1 h2, sh h3 h4⟩]
    simp [PyData.eqv, PyData.eqvAll, eqvAll_ps]
  unfold gEq eqD
  rw [e]
  rfl
theorem isi_ok {tab : Tab} {l : LE} {ρ : Ev} {S S1 : Sto} {d e : D} (h : l ρ S = .ok d S1) (h2 : gIsi tab S1 d = some e) : lIsi tab l ρ S = .ok e S1 := by
  unfold lIsi; rw [h, bind_ok, h2]; rfl
/-- the text of a number of at most thirty figures -/
theorem itext {n : Int} (h0 : 0 ≤ n) (h1 : n < 10 ^ 30) : (∀ S, gStr S [.int n] = some (.str (Str.ofString (toString n)))) ∧ (Str.ofString (toString n)).length ≤ 1921 := by
  have hlog : n.natAbs.log2 < 1920 := by
    have h2 : n.natAbs < 2 ^ 1920 := Nat.lt_of_lt_of_le (show n.natAbs < 10 ^ 30 by omega) (by decide)
    by_cases hz : n.natAbs = 0
    · rw [hz]; decide
    · exact (Nat.log2_lt hz).mpr h2
  exact ⟨fun S => if_pos hlog, int_text_len_1921 (by omega)⟩
/-! the rows of a circle's text -/
def rowM (p : Pr) : Str := if p.2 = "" then "member " ++ p.1 else "member " ++ p.1 ++ " " ++ p.2
def rowB (p : Pr) : Str := "bar " ++ p.1 ++ " " ++ p.2
def rowsC (ms bs : List Pr) (n : Int) : List Str := ("circle " ++ Str.ofString (toString n)) :: (ms.map rowM ++ bs.map rowB)
theorem addS2 {S : Sto} {i j : Str} {a b : Nat} (ha : i.length ≤ a) (hb : j.length ≤ b) (h : a + b ≤ 100000) : gAdd2 S (.str i) (.str j) = some (.str (i ++ j)) ∧ (i ++ j).length ≤ a + b := by
  have hl : (i ++ j).length = i.length + j.length := by rw [len_tl, tl_append, List.length_append, ← len_tl, ← len_tl]
  exact ⟨add2_ss (by rw [sizeLine_eq]; omega), by omega⟩
theorem nm_len {x : Str} (h : nm x = true) : x.length ≤ 12 := by
  unfold nm at h
  rw [Bool.and_eq_true, decide_eq_true_eq] at h
  exact h.1.2
theorem gd_len {p : Pr} (h : gdP p) : p.1.length ≤ 12 ∧ p.2.length ≤ 12 := by
  refine ⟨nm_len h.1, ?_⟩
  rcases h.2 with e | e
  · rw [e]; decide
  · exact nm_len e
theorem row_len {p : Pr} (h : gdP p) : (rowM p).length ≤ 40 ∧ (rowB p).length ≤ 40 := by
  obtain ⟨h1, h2⟩ := gd_len h
  have e : ∀ i j : Str, (i ++ j).length = i.length + j.length := fun i j => by rw [len_tl, tl_append, List.length_append, ← len_tl, ← len_tl]
  unfold rowM rowB
  have l1 : ("member " : Str).length = 7 := by decide
  have l2 : ("bar " : Str).length = 4 := by decide
  have l3 : (" " : Str).length = 1 := by decide
  constructor
  · split
    · rw [e]; omega
    · rw [e, e, e]; omega
  · rw [e, e, e]; omega
theorem sum_le {α : Type} (f : α → Nat) (k : Nat) : ∀ (xs : List α), (∀ x ∈ xs, f x ≤ k) → (xs.map f).sum ≤ k * xs.length
  | [], _ => by simp
  | x :: xs, h => by
    have ih := sum_le f k xs fun y hy => h y (by simp [hy])
    have h0 := h x (by simp)
    simp only [List.map_cons, List.sum_cons, List.length_cons, Nat.mul_add]
    omega
theorem strsD_map : ∀ ys : List Str, strsD (ys.map D.str) = some ys
  | [] => rfl
  | y :: ys => by
    show (strsD (ys.map D.str)).map (fun l => y :: l) = _
    rw [strsD_map ys]
    rfl
theorem join_ok {S : Sto} {ms bs : List Pr} {n : Int} (hg : GoodC ms bs n) {d : D} (hv : vw S d = .lst ((rowsC ms bs n).map D.str)) : stJoin S (.str "\n") [d] = some (.str (Txt.join "\n" (rowsC ms bs n)), S) := by
  unfold stJoin
  dsimp only
  rw [hv]
  dsimp only
  rw [strsD_map]
  dsimp only
  refine if_pos ?_
  have h1 : ((ms.map rowM).map (·.length)).sum ≤ 40 * ms.length := by
    rw [List.map_map]
    exact sum_le _ 40 ms fun p hp => (row_len (hg.gm p hp)).1
  have h2 : ((bs.map rowB).map (·.length)).sum ≤ 40 * bs.length := by
    rw [List.map_map]
    exact sum_le _ 40 bs fun p hp => (row_len (hg.gb p hp)).2
  have h3 := (itext hg.n0 hg.n1).2
  have e : ∀ i j : Str, (i ++ j).length = i.length + j.length := fun i j => by rw [len_tl, tl_append, List.length_append, ← len_tl, ← len_tl]
  have l1 : ("circle " : Str).length = 7 := by decide
  have l2 : ("\n" : Str).length = 1 := by decide
  have := hg.lm
  have := hg.lb
  unfold rowsC
  simp only [List.map_cons, List.map_append, List.sum_cons, List.sum_append, List.length_cons, List.length_append, List.length_map, e, l2, Nat.mul_one] at h1 h2 ⊢
  omega
section
variable {P : Program} {w : World} {K : PySem.W.Frag} {mg : Str → Option Value} {base : Heap}
theorem ok_ceq (T : T61 K mg) : FnL P w K mg base 1 T.f_Circle___eq__ T.fd_Circle___eq__ ["self", "other"] (F2 (gpCi T.C_Circle)) := by
  refine FnL.le (Fun.okL T.F_Circle___eq__ sc_Circle___eq__ fun cdv A outer s H E hr =>
(pssl_cons (psl_if (ptl_not (ptl_truth (pel_isi rfl T.n_isinstance (pel_var (i := 1)) (pe_glob rfl T.mg_Circle (v := .ref T.C_Circle) rfl) (.own _) T.isi_Circle))) (pssl_one (psl_ret pel_bl)) pssl_nil)
  (pssl_cons (psl_par (i := 2) (j := 3) rfl sc_Circle___eq__.nd (pal_cons (pel_tup (pal_cons (pel_fld T.cl_Circle T.na_Circle_members (pel_var (i := 0))) (pal_cons (pel_fld T.cl_Circle T.na_Circle_bars (pel_var (i := 0))) (pal_cons (pel_fld T.cl_Circle T.na_Circle_past (pel_var (i := 0))) pal_nil)))) (pal_cons (pel_tup (pal_cons (pel_fld T.cl_Circle T.na_Circle_members (pel_var (i := 1))) (pal_cons (pel_fld T.cl_Circle T.na_Circle_bars (pel_var (i := 1))) (pal_cons (pel_fld T.cl_Circle T.na_Circle_past (pel_var (i := 1))) pal_nil)))) pal_nil)))
  (pssl_one (psl_ret (pel_and (pel_cmp (opl_eq hr.units) (pel_var (i := 2)) (pel_var (i := 3))) (pel_one (pel_cmp (opl_eq hr.units) (pel_fld T.cl_Circle T.na_Circle_gap (pel_var (i := 0))) (pel_fld T.cl_Circle T.na_Circle_gap (pel_var (i := 1))))))))))) fun ds S hl => ?_
  match ds, hl with
  | [x, y], _ =>
    show RLe S (lift1 (gpCi T.C_Circle S x y) S) _
    unfold gpCi
    cases hx : ciOf T.C_Circle x with
    | none => exact .bad _
    | some a =>
      cases hy : ciOf T.C_Circle y with
      | none => exact .bad _
      | some b =>
        obtain ⟨rfl, ha⟩ := ciOf_inv hx
        obtain ⟨rfl, hb⟩ := ciOf_inv hy
        obtain ⟨ms, bs, n⟩ := a
        obtain ⟨ms', bs', n'⟩ := b
        dsimp only at ha hb ⊢
        have hi : ∀ d : D, d = crD T.C_Circle ms' bs' n' → gIsi (tabCi T.C_Circle) S d = some (.bl true) := fun d hd => by
          subst hd
          show (if T.C_Circle = T.C_Circle then some true else none : Option Bool).map D.bl = _
          rw [if_pos rfl]
          rfl
        refine rle_eq (body_rt (seq_nx (if_ff (not_ok (tru_b (isi_ok rfl (hi _ rfl)) rfl)) rfl) (seq_nx (par_ok (acons_ok (tup_ok (acons_ok (fld_ci rfl rfl) (acons_ok (fld_ci rfl rfl) (acons_ok (fld_ci rfl rfl) rfl))) (by simp)) (acons_ok (tup_ok (acons_ok (fld_ci rfl rfl) (acons_ok (fld_ci rfl rfl) (acons_ok (fld_ci rfl rfl) rfl))) (by simp)) rfl))) (ret_ok ?_))))
        by_cases hq : ms = ms' ∧ bs = bs'
        · refine andv_tt (d := .bl true) (bin_ok rfl rfl (by rw [eq3 ha.gm ha.gb hb.gm hb.gb, decide_eq_true hq])) rfl (bin_ok (fld_ci rfl rfl) (fld_ci rfl rfl) ?_)
          obtain ⟨rfl, rfl⟩ := hq
          rw [eq_ii]
          simp
        · have : (.bl (decide ((ms, bs, n) = (ms', bs', n'))) : D) = .bl false := by
            rw [decide_eq_false (fun z => hq (by cases z; exact ⟨rfl, rfl⟩))]
          rw [this]
          exact andv_ff (bin_ok rfl rfl (by rw [eq3 ha.gm ha.gb hb.gm hb.gb, decide_eq_false hq])) rfl
def SRows (g : F) : Prop := ∀ (S : Sto) (ms bs : List Pr) (n : Int), GoodC ms bs n → g [.ftup (psD ms), .ftup (psD bs), .ftup [], .int n] S = .ok (.ref S.length) (S ++ [.lst ((rowsC ms bs n).map D.str)])
theorem ok_rows (T : T61 K mg) : ∃ g, FnL P w K mg base 1 T.f_circle_rows T.fd_circle_rows ["members", "bars", "past", "gap"] g ∧ SRows g := by
  refine ⟨_, Fun.okL T.F_circle_rows sc_circle_rows fun cdv A outer s H E hr =>
(pssl_cons (psl_set (i := 4) sc_circle_rows.nd (pel_lstN (pal_cons (pel_op opl_add2 pel_str (pel_callTy (cl_str) rfl T.n_str (by decide +kernel) (pal_cons (pel_var (i := 3)) pal_nil))) pal_nil)))
  (pssl_cons (psl_for (passes_of rfl) rfl (pil_val (pel_var (i := 0))) (pgl_tup (n := 2) rfl (pgsl_cons (pgl_name (i := 5) sc_circle_rows.nd) (pgsl_cons (pgl_name (i := 6) sc_circle_rows.nd) pgsl_nil))) (pssl_one (psl_expr (pel_append (pel_var (i := 4)) (pel_ifExp (ptl_cmp (opl_eq hr.units) (pel_var (i := 6)) pel_str) (pel_op opl_add2 pel_str (pel_var (i := 5))) (pel_op opl_add2 (pel_op opl_add2 (pel_op opl_add2 pel_str (pel_var (i := 5))) pel_str) (pel_var (i := 6))))))))
  (pssl_cons (psl_expr (pel_extend (pel_var (i := 4)) (pel_lc (own := [("giver", 7), ("taker", 8)]) rfl sc_circle_rows.nd (pil_val (pel_var (i := 1))) (blkOk_by (N := N_circle_rows) (sc := defScope s_circle_rows) (by decide +kernel)) (fun _ _ _ _ _ => (pgl_tup (n := 2) rfl (pgsl_cons (pgl_name (i := 7) sc_circle_rows.nd) (pgsl_cons (pgl_name (i := 8) sc_circle_rows.nd) pgsl_nil)))) (fun _ _ _ _ _ => ptsl_nil) (fun _ _ _ _ _ => (pel_op opl_add2 (pel_op opl_add2 (pel_op opl_add2 pel_str (pel_var (i := 7))) pel_str) (pel_var (i := 8)))))))
  (pssl_cons (psl_for (passes_of rfl) rfl (pil_val (pel_var (i := 2))) (pgl_name (i := 9) sc_circle_rows.nd) (pssl_cons psl_bad
  (pssl_one psl_bad)))
  (pssl_one (psl_ret (pel_var (i := 4)))))))), ?_⟩
  intro S ms bs n hg
  obtain ⟨i1, i2⟩ := itext hg.n0 hg.n1
  have a0 := addS2 (S := S) (i := "circle ") (j := Str.ofString (toString n)) (a := 7) (b := 1921) (by decide) i2 (by decide)
  have snoc : ∀ (o : O), (S ++ [o])[S.length]? = some o := fun o => by simp
  have snoc2 : ∀ (o o' : O), (S ++ [o]).set S.length o' = S ++ [o'] := fun o o' => by simp
  have isr : ∀ (xs : List D), isTy "list" (S ++ [.lst xs]) (.ref S.length) = true := fun xs => by
    unfold isTy
    rw [vw_ref (snoc _)]
    rfl
  have mb : ∀ (p : Pr) (xs : List Str) (ρ : Ev), gdP p → xs.length ≤ 500 → ρ[4]? = some (some (.ref S.length)) → ρ[5]? = some (some (.str p.1)) → ρ[6]? = some (some (.str p.2)) →
      lExpr (lBM "list" stApp (lVar 4) (aCons (lIf (tTru (lBin gEq (lVar 6) (lC (.str "")))) (lBin gAdd2 (lC (.str "member ")) (lVar 5)) (lBin gAdd2 (lBin gAdd2 (lBin gAdd2 (lC (.str "member ")) (lVar 5)) (lC (.str " "))) (lVar 6))) aNil)) ρ (S ++ [.lst (xs.map D.str)]) = .ok (.nx ρ) (S ++ [.lst ((xs ++ [rowM p]).map D.str)]) := by
    intro p xs ρ hp hx h4 h5 h6
    obtain ⟨l1, l2⟩ := gd_len hp
    have v4 : ∀ S', lVar 4 ρ S' = .ok (.ref S.length) S' := fun S' => by unfold lVar; rw [h4]
    have v5 : ∀ S', lVar 5 ρ S' = .ok (.str p.1) S' := fun S' => by unfold lVar; rw [h5]
    have v6 : ∀ S', lVar 6 ρ S' = .ok (.str p.2) S' := fun S' => by unfold lVar; rw [h6]
    have b1 := addS2 (S := S ++ [.lst (xs.map D.str)]) (i := "member ") (j := p.1) (a := 7) (b := 12) (by decide) l1 (by decide)
    have b2 := addS2 (S := S ++ [.lst (xs.map D.str)]) (j := " ") (b := 1) b1.2 (by decide) (by decide)
    have b3 := addS2 (S := S ++ [.lst (xs.map D.str)]) (j := p.2) (b := 12) b2.2 l2 (by decide)
    have happ : ∀ z : Str, stApp (S ++ [.lst (xs.map D.str)]) (.ref S.length) [.str z] = some (.non, S ++ [.lst ((xs ++ [z]).map D.str)]) := fun z => by
      rw [app_ok (snoc _) (by rw [List.length_map]; omega), snoc2, List.map_append]
      rfl
    have hgoal : ∀ z : Str, lIf (tTru (lBin gEq (lVar 6) (lC (.str "")))) (lBin gAdd2 (lC (.str "member ")) (lVar 5)) (lBin gAdd2 (lBin gAdd2 (lBin gAdd2 (lC (.str "member ")) (lVar 5)) (lC (.str " "))) (lVar 6)) ρ (S ++ [.lst (xs.map D.str)]) = .ok (.str z) (S ++ [.lst (xs.map D.str)]) → lExpr (lBM "list" stApp (lVar 4) (aCons (lIf (tTru (lBin gEq (lVar 6) (lC (.str "")))) (lBin gAdd2 (lC (.str "member ")) (lVar 5)) (lBin gAdd2 (lBin gAdd2 (lBin gAdd2 (lC (.str "member ")) (lVar 5)) (lC (.str " "))) (lVar 6))) aNil)) ρ (S ++ [.lst (xs.map D.str)]) = .ok (.nx ρ) (S ++ [.lst ((xs ++ [z]).map D.str)]) := fun z hz => expr_ok (bm_ok (v4 _) (isr _) (acons_ok hz rfl) (happ z))
    refine hgoal _ ?_
    unfold rowM
    by_cases hh : p.2 = ""
    · rw [if_pos hh]
      exact ife_tt (tru_b (bin_ok (v6 _) rfl (by rw [eq_ss])) (decide_eq_true hh)) (bin_ok rfl (v5 _) b1.1)
    · rw [if_neg hh]
      exact ife_ff (tru_b (bin_ok (v6 _) rfl (by rw [eq_ss])) (decide_eq_false hh)) (bin_ok (bin_ok (bin_ok rfl (v5 _) b1.1) rfl b2.1) (v6 _) b3.1)
  have loop : ∀ (ps : List Pr) (xs : List Str), xs.length + ps.length ≤ 200 → (∀ p ∈ ps, gdP p) → ∀ ρ : Ev, ρ = [some (.ftup (psD ms)), some (.ftup (psD bs)), some (.ftup []), some (.int n), some (.ref S.length), none, none, none, none, none, none] →
      forG ρ (fun _ => True) (gtTup 2 (gtCons (gtName 5) (gtCons (gtName 6) gtNil))) (lExpr (lBM "list" stApp (lVar 4) (aCons (lIf (tTru (lBin gEq (lVar 6) (lC (.str "")))) (lBin gAdd2 (lC (.str "member ")) (lVar 5)) (lBin gAdd2 (lBin gAdd2 (lBin gAdd2 (lC (.str "member ")) (lVar 5)) (lC (.str " "))) (lVar 6))) aNil))) (psD ps) ρ (S ++ [.lst (xs.map D.str)]) = .ok (.nx ρ) (S ++ [.lst ((xs ++ ps.map rowM).map D.str)]) := by
    intro ps
    induction ps with
    | nil => intro xs _ _ ρ _; rw [List.map_nil, List.append_nil]; exact for_end trivial
    | cons p ps ih =>
      intro xs hx hp ρ hρ
      have h1 := mb p xs [some (.ftup (psD ms)), some (.ftup (psD bs)), some (.ftup []), some (.int n), some (.ref S.length), some (.str p.1), some (.str p.2), none, none, none, none] (hp p (by simp)) (by omega) rfl rfl rfl
      refine for_go trivial (by rw [hρ]; rfl) h1 ?_
      have h2 := ih (xs ++ [rowM p]) (by simp only [List.length_append, List.length_cons, List.length_nil] at hx ⊢; omega) (fun q hq => hp q (by simp [hq])) ρ hρ
      rw [List.append_assoc] at h2
      have ew : wk ρ [some (.ftup (psD ms)), some (.ftup (psD bs)), some (.ftup []), some (.int n), some (.ref S.length), some (.str p.1), some (.str p.2), none, none, none, none] = ρ := by rw [hρ]; rfl
      rw [ew]
      exact h2
  have l0 := loop ms ["circle " ++ Str.ofString (toString n)] (by have := hg.lm; simp; omega) hg.gm _ rfl
  have hb : ∀ S' : Sto, lComp (lIter (lVar 1)) [7, 8] (gtTup 2 (gtCons (gtName 7) (gtCons (gtName 8) gtNil))) tYesL (lBin gAdd2 (lBin gAdd2 (lBin gAdd2 (lC (.str "bar ")) (lVar 7)) (lC (.str " "))) (lVar 8)) [some (.ftup (psD ms)), some (.ftup (psD bs)), some (.ftup []), some (.int n), some (.ref S.length), none, none, none, none, none, none] S' = .ok (.lst ((bs.map rowB).map D.str)) S' := by
    intro S'
    refine (comp_okL (iter_ok rfl rfl) (by have := hg.lb; rw [psD_len]; omega) (comp_map (enc := pD) (f := fun p => D.str (rowB p)) trivial bs fun p hp => ?_)).trans (by rw [List.map_map]; rfl)
    obtain ⟨l1, l2⟩ := gd_len (hg.gb p hp)
    have b1 := addS2 (S := S') (i := "bar ") (j := p.1) (a := 4) (b := 12) (by decide) l1 (by decide)
    have b2 := addS2 (S := S') (j := " ") (b := 1) b1.2 (by decide) (by decide)
    have b3 := addS2 (S := S') (j := p.2) (b := 12) b2.2 l2 (by decide)
    exact ⟨_, rfl, bin_ok (bin_ok (bin_ok rfl rfl b1.1) rfl b2.1) rfl b3.1⟩
  have hext : ∀ xs ys : List Str, xs.length + ys.length ≤ 200 → stExt (S ++ [.lst (xs.map D.str)]) (.ref S.length) [.lst (ys.map D.str)] = some (.non, S ++ [.lst ((xs ++ ys).map D.str)]) := fun xs ys h => by
    unfold stExt
    dsimp only
    rw [snoc]
    dsimp only
    rw [if_pos (by rw [List.length_map, List.length_map]; omega), snoc2, ← List.map_append]
  have hfin : (["circle " ++ Str.ofString (toString n)] ++ ms.map rowM) ++ bs.map rowB = rowsC ms bs n := by unfold rowsC; simp
  rw [← hfin]
  exact body_rt (seq_nx (set_ok (lstN_ok (acons_ok (bin_ok rfl (callb_ok (acons_ok rfl rfl) (i1 S)) a0.1) rfl) (by simp))) (seq_nx (for_ok (iter_ok rfl rfl) l0) (seq_nx (expr_ok (bm_ok rfl (isr _) (acons_ok (hb _) rfl) (hext _ _ (by have := hg.lm; have := hg.lb; simp; omega)))) (seq_nx (for_ok (iter_ok rfl rfl) (for_end trivial)) (ret_ok rfl)))))
end
end K61

namespace K61
open PySem PySem.Spec PyProof.Rows L2 MP TL
open K59 (Pr nm givs taks slt isL lets nm_ok sle sorted_strs cnt_nodup slt_trans slt_irrefl)
/-! ### clubs -/
abbrev StP := List Pr × List Pr
def stT (q : StP) : D := .tup [.ftup (psD q.1), .ftup (psD q.2), .ftup []]
def clFs (ms bs : List Pr) (n : Int) (h : Nat) : List (Str × D) := [("kept_gap", .int n), ("kept_members", .ftup (psD ms)), ("kept_bars", .ftup (psD bs)), ("kept_years", .ftup []), ("states_had", .ref h)]
/-- the club at c, its past at h -/
structure ClubAt (C : Addr) (c h : Nat) (S : Sto) (q : StP) (n : Int) (hist : List StP) : Prop where
  at_ : S[c]? = some (.ins C (clFs q.1 q.2 n h))
  his : S[h]? = some (.lst (hist.map stT))
  ne : c ≠ h
/-- nothing but the places c and h is otherwise; the store grew -/
def Fr2 (c h : Nat) (S S' : Sto) : Prop := S.length ≤ S'.length ∧ ∀ k, k ≠ c → k ≠ h → k < S.length → S'[k]? = S[k]?
theorem Fr2.refl {c h : Nat} {S : Sto} : Fr2 c h S S := ⟨Nat.le_refl _, fun _ _ _ _ => rfl⟩
theorem Fr2.trans {c h : Nat} {S S1 S2 : Sto} (a : Fr2 c h S S1) (b : Fr2 c h S1 S2) : Fr2 c h S S2 := ⟨Nat.le_trans a.1 b.1, fun k h1 h2 h3 => (b.2 k h1 h2 (Nat.lt_of_lt_of_le h3 a.1)).trans (a.2 k h1 h2 h3)⟩
theorem Fr2.get {c h k : Nat} {S S' : Sto} {o : O} (f : Fr2 c h S S') (h1 : k ≠ c) (h2 : k ≠ h) (e : S[k]? = some o) : S'[k]? = some o := by
  rw [f.2 k h1 h2 (List.getElem?_eq_some_iff.mp e).1]
  exact e
def vO : O → D
  | .lst xs => .lst xs
  | .dct t kvs => .dct t kvs
  | .ins C fs => .obj C fs
theorem vref {S : Sto} {k : Nat} {o : O} (h : S[k]? = some o) : vw S (.ref k) = vO o := by
  dsimp only [vw]
  rw [h]
  cases o <;> rfl
theorem fld_at {C : Addr} {S : Sto} {ρ : Ev} {i c : Nat} {f : Str} {fs : List (Str × D)} {d : D} (h : ρ[i]? = some (some (.ref c))) (hc : S[c]? = some (.ins C fs)) (hf : fs.lookup f = some d) : lFld C f (lVar i) ρ S = .ok d S := fld_ok (d := .ref c) (by unfold lVar; rw [h]) (by
  unfold gFld
  rw [vref hc]
  show (if C = C then fs.lookup f else none) = _
  rw [if_pos rfl]
  exact hf)
theorem recv_at2 {C : Addr} {S : Sto} {c : Nat} {mn : Str} {fs : List (Str × D)} (hc : S[c]? = some (.ins C fs)) (h : fs.lookup mn = none) : recv C mn S (.ref c) = true := by
  unfold recv
  rw [vref hc]
  show (decide (C = C) && (fs.lookup mn).isNone) = true
  rw [decide_eq_true rfl, h]
  rfl
def encS (q : StP) : PyData := .tuple [.tuple (q.1.map encP), .tuple (q.2.map encP), .tuple []]
def HistOk (hist : List StP) : Prop := hist.length ≤ 200 ∧ ∀ q ∈ hist, (∀ p ∈ q.1, gdP p) ∧ ∀ p ∈ q.2, gdP p
theorem toPD_st (q : StP) : toPD (stT q) = some (encS q) := by simp [stT, encS, toPD, toPDs, toPDs_ps]
theorem toPDs_st : ∀ hist : List StP, toPDs (hist.map stT) = some (hist.map encS)
  | [] => rfl
  | q :: hist => by
    show (toPD (stT q)).bind _ = _
    rw [toPD_st, toPDs_st hist]
    rfl
theorem lay_st : ∀ {hist : List StP}, (∀ q ∈ hist, (∀ p ∈ q.1, gdP p) ∧ ∀ p ∈ q.2, gdP p) → PyData.canLayAll0 (hist.map encS) = true ∧ PyData.depthAll (hist.map encS) ≤ 10
  | [], _ => ⟨rfl, by simp [PyData.depthAll]⟩
  | q :: hist, h => by
    obtain ⟨a, b⟩ := lay_st (hist := hist) fun p hp => h p (by simp [hp])
    obtain ⟨h1, h2⟩ := h q (by simp)
    obtain ⟨a1, b1⟩ := lay_ps h1
    obtain ⟨a2, b2⟩ := lay_ps h2
    refine ⟨by simp [PyData.canLayAll0, encS, PyData.canLay0, a, a1, a2], ?_⟩
    simp only [List.map_cons, PyData.depthAll, encS, PyData.depth]
    omega
theorem eq_hist {S : Sto} {h : Nat} {hist : List StP} (hh : S[h]? = some (.lst (hist.map stT))) (ho : HistOk hist) : gEq S (.ref h) (.lst []) = some (.bl (decide (hist = []))) := by
  have e : eqP S (.ref h) (.lst []) = some (decide (hist = [])) := by
    unfold eqP
    rw [vref hh]
    show (toPD (.lst (hist.map stT))).bind _ = _
    have e1 : toPD (.lst (hist.map stT)) = some (.list (hist.map encS)) := by simp [toPD, toPDs_st]
    rw [e1]
    show (if SeqAt.shaped (.list (hist.map encS)) = true ∧ SeqAt.shaped (.list []) = true then some (PyData.eqv (.list (hist.map encS)) (.list [])) else none) = _
    have sh : SeqAt.shaped (.list (hist.map encS)) = true := by
      unfold SeqAt.shaped
      obtain ⟨a, b⟩ := lay_st ho.2
      rw [Bool.and_eq_true]
      refine ⟨by simpa [PyData.canLay0] using a, decide_eq_true ?_⟩
      simp only [PyData.depth]
      omega
    rw [if_pos ⟨sh, by kernel_rfl⟩]
    cases hist with
    | nil => simp [PyData.eqv, PyData.eqvAll]
    | cons q hist => simp [PyData.eqv, PyData.eqvAll]
  unfold gEq eqD
  rw [e]
  rfl
/-- a pair among pairs -/
theorem in_ps {S : Sto} {p : Pr} {ps : List Pr} {c : D} (hp : gdP p) (hps : ∀ q ∈ ps, gdP q) (hc : vw S c = .ftup (psD ps) ∨ vw S c = .lst (psD ps)) : gInD S (pD p) c = some (.bl (decide (p ∈ ps))) ∧ gNotInD S (pD p) c = some (.bl (!decide (p ∈ ps))) := by
  have e1 : toPD (vw S (pD p)) = some (encP p) := by simp [pD, vw, toPD, toPDs, encP]
  have ev : ∀ q : Pr, PyData.eqv (encP q) (encP p) = decide (q = p) := fun q => by
    have := eqvAll_ps [q] [p]
    simpa [PyData.eqvAll] using this
  have ea : (ps.map encP).any (fun z => PyData.eqv z (encP p)) = decide (p ∈ ps) := by
    rw [List.any_map]
    induction ps with
    | nil => rfl
    | cons q ps ih =>
      have h2 : ∀ qs : List Pr, qs.any ((fun z => PyData.eqv z (encP p)) ∘ encP) = decide (p ∈ qs) := fun qs => by
        induction qs with
        | nil => rfl
        | cons a qs ih =>
          rw [List.any_cons, ih]
          show (PyData.eqv (encP a) (encP p) || _) = _
          rw [ev]
          by_cases h : p = a
          · subst h; simp
          · simp [h, Ne.symm h]
      exact h2 _
  obtain ⟨a1, b1⟩ := lay_ps (ps := [p]) (by simpa using hp)
  have s1 : SeqAt.shaped (encP p) = true := by
    unfold SeqAt.shaped
    rw [Bool.and_eq_true]
    refine ⟨by simpa [PyData.canLayAll0] using a1, decide_eq_true ?_⟩
    simp only [List.map_cons, List.map_nil, PyData.depthAll] at b1
    omega
  obtain ⟨a2, b2⟩ := lay_ps hps
  have key : inP S (pD p) c = some (decide (p ∈ ps)) := by
    unfold inP
    rw [e1]
    rcases hc with hc | hc
    · rw [hc]
      have : toPD (.ftup (psD ps)) = some (.tuple (ps.map encP)) := by simp [toPD, toPDs_ps]
      rw [this]
      have sh : SeqAt.shaped (.tuple (ps.map encP)) = true := by
        unfold SeqAt.shaped
        rw [Bool.and_eq_true]
        refine ⟨by simpa [PyData.canLay0] using a2, decide_eq_true ?_⟩
        simp only [PyData.depth]
        omega
      show (if _ ∧ SeqAt.shaped (.tuple (ps.map encP)) = true then some _ else none) = _
      rw [if_pos ⟨s1, sh⟩, ea]
    · rw [hc]
      have : toPD (.lst (psD ps)) = some (.list (ps.map encP)) := by simp [toPD, toPDs_ps]
      rw [this]
      have sh : SeqAt.shaped (.list (ps.map encP)) = true := by
        unfold SeqAt.shaped
        rw [Bool.and_eq_true]
        refine ⟨by simpa [PyData.canLay0] using a2, decide_eq_true ?_⟩
        simp only [PyData.depth]
        omega
      show (if _ ∧ SeqAt.shaped (.list (ps.map encP)) = true then some _ else none) = _
      rw [if_pos ⟨s1, sh⟩, ea]
  unfold gInD gNotInD
  rw [key]
  exact ⟨rfl, rfl⟩
theorem ne_pp {S : Sto} {p q : Pr} (hp : gdP p) (hq : gdP q) : gNe S (pD p) (pD q) = some (.bl (!decide (p = q))) := by
  have e1 : ∀ p : Pr, toPD (vw S (pD p)) = some (encP p) := fun p => by simp [pD, vw, toPD, toPDs, encP]
  have sh : ∀ {p : Pr}, gdP p → SeqAt.shaped (encP p) = true := fun {p} hp => by
    obtain ⟨a1, b1⟩ := lay_ps (ps := [p]) (by simpa using hp)
    unfold SeqAt.shaped
    rw [Bool.and_eq_true]
    refine ⟨by simpa [PyData.canLayAll0] using a1, decide_eq_true ?_⟩
    simp only [List.map_cons, List.map_nil, PyData.depthAll] at b1
    omega
  have e : eqP S (pD p) (pD q) = some (decide (p = q)) := by
    unfold eqP
    rw [e1, e1]
    show (if SeqAt.shaped (encP p) = true ∧ SeqAt.shaped (encP q) = true then some (PyData.eqv (encP p) (encP q)) else none) = _
    rw [if_pos ⟨sh hp, sh hq⟩]
    have := eqvAll_ps [p] [q]
    simpa [PyData.eqvAll] using this
  unfold gNe eqD
  rw [e]
  rfl
theorem sortedT_ok {S : Sto} {L : List Pr} (h : L.length ≤ 1000) : gSortedT S [.tup (psD L)] = some (.lst (psD (L.mergeSort leP))) := by
  unfold gSortedT
  dsimp only
  rw [if_pos (srt_ps L h), sort_ps]
theorem catF_ok {S : Sto} {L : List Pr} {p : Pr} (h : L.length ≤ 1000) : gAdd3 S (.ftup (psD L)) (.tup [pD p]) = some (.tup (psD (L ++ [p]))) := by
  have e : gAdd2 S (.ftup (psD L)) (.tup [pD p]) = none := rfl
  unfold gAdd3
  rw [e]
  show (if [pD p] ≠ [] ∧ (psD L).length + [pD p].length ≤ 100000 then some (D.tup (psD L ++ [pD p])) else none) = _
  rw [if_pos ⟨by simp, by rw [psD_len]; simp; omega⟩]
  simp [psD]
theorem rle_to {S S' : Sto} {d d' : D} {r : R D} (e : r = .ok d S') (h : S'.take S.length = S) (hd : d' = fz S' S.length d) (hb : below S.length d' = true) : RLe S (.ok d' S) r := e ▸ .gc _ _ _ h hd hb
section
variable {P : Program} {w : World} {K : PySem.W.Frag} {mg : Str → Option Value} {base : Heap}
noncomputable def gcS (C : Addr) : Sto → D → Option D := fun _ x => (ciOf C x).map fun q => .str (Txt.join "\n" (rowsC q.1 q.2.1 q.2.2))
theorem ok_cstr (T : T61 K mg) : FnL P w K mg base 2 T.f_Circle___str__ T.fd_Circle___str__ ["self"] (F1 (gcS T.C_Circle)) := by
  obtain ⟨gr, Fn_circle_rows, Sr⟩ := ok_rows (P := P) (w := w) (base := base) T
  refine FnL.le (Fun.okL T.F_Circle___str__ sc_Circle___str__ fun cdv A outer s H E hr =>
(pssl_one (psl_ret (pel_strjoin pel_str (pel_call Fn_circle_rows (hr.mono (by decide)) rfl T.mg_circle_rows T.F_circle_rows.kp T.b_circle_rows dfl_nil (pal_cons (pel_fld T.cl_Circle T.na_Circle_members (pel_var (i := 0))) (pal_cons (pel_fld T.cl_Circle T.na_Circle_bars (pel_var (i := 0))) (pal_cons (pel_fld T.cl_Circle T.na_Circle_past (pel_var (i := 0))) (pal_cons (pel_fld T.cl_Circle T.na_Circle_gap (pel_var (i := 0))) pal_nil))))))))) fun ds S hl => ?_
  match ds, hl with
  | [x], _ =>
    show RLe S (lift1 (gcS T.C_Circle S x) S) _
    unfold gcS
    cases hx : ciOf T.C_Circle x with
    | none => exact .bad _
    | some a =>
      obtain ⟨rfl, ha⟩ := ciOf_inv hx
      obtain ⟨ms, bs, n⟩ := a
      dsimp only at ha ⊢
      have hv : vw (S ++ [O.lst ((rowsC ms bs n).map D.str)]) (.ref S.length) = .lst ((rowsC ms bs n).map D.str) := vref (o := .lst ((rowsC ms bs n).map D.str)) (by simp)
      exact rle_to (d' := .str (Txt.join "\n" (rowsC ms bs n))) (body_rt (ret_ok (bms_ok (z := "\n") rfl (acons_ok (call_ok (acons_ok (fld_ci rfl rfl) (acons_ok (fld_ci rfl rfl) (acons_ok (fld_ci rfl rfl) (acons_ok (fld_ci rfl rfl) rfl)))) rfl (Sr S ms bs n ha)) rfl) (join_ok ha hv)))) (by simp) rfl rfl
def SHouse (C : Addr) (g : F) : Prop := ∀ (S : Sto) (ms bs : List Pr) (n : Int) (p : Pr), GoodC ms bs n → p ∈ ms → g [crD C ms bs n, .str p.1] S = .ok (.str p.2) S
theorem ok_house (T : T61 K mg) : ∃ g, FnL P w K mg base 1 T.f_Circle_house_of T.fd_Circle_house_of ["self", "name"] g ∧ SHouse T.C_Circle g := by
  refine ⟨_, Fun.okL T.F_Circle_house_of sc_Circle_house_of fun cdv A outer s H E hr =>
(pssl_cons (psl_if (PWL.pt (pwl_or (ptl_not (ptl_truth (pel_isi rfl T.n_isinstance (pel_var (i := 1)) (pe_bltn rfl T.n_str (v := .ty "str") (u := .type "str") (by decide +kernel) rfl) (.ty _) isi_strA))) (pwl_or1 (ptl_cmp (opl_dnotin hr.units) (pel_var (i := 1)) (pel_fld T.cl_Circle T.na_Circle_houses (pel_var (i := 0))))))) (pssl_one psl_bad) pssl_nil)
  (pssl_one (psl_ret (pel_ix (ixl_dct hr.units) (pel_fld T.cl_Circle T.na_Circle_houses (pel_var (i := 0))) (pel_var (i := 1)))))), ?_⟩
  intro S ms bs n p hg hp
  have hstr : gIsi tabStrA S (.str p.1) = some (.bl true) := rfl
  have hl : lookD false (kv2 ms) [.inr p.1] = some (.str p.2) := look_kv2 hp hg.nd
  have hin : gDnotin S (.str p.1) (.dct false (kv2 ms)) = some (.bl false) := by
    show (some [Sum.inr p.1]).map (fun ks => D.bl (!(lookD false (kv2 ms) ks).isSome)) = _
    show some (D.bl (!(lookD false (kv2 ms) [.inr p.1]).isSome)) = _
    rw [hl]
    rfl
  have hix : gDix S (.dct false (kv2 ms)) (.str p.1) = some (.str p.2) := by
    show (some [Sum.inr p.1]).bind (fun ks => lookD false (kv2 ms) ks) = _
    exact hl
  exact body_rt (seq_nx (if_ff (or_ff (not_ok (b := true) (tru_b (isi_ok rfl hstr) rfl)) (tru_b (bin_ok rfl (fld_ci rfl rfl) hin) rfl)) rfl) (ret_ok (bin_ok (fld_ci rfl rfl) rfl hix)))
/-- without a member -/
def wo (x : Str) (ms : List Pr) : List Pr := ms.filter fun p => !decide (p.1 = x)
theorem good_wo {ms bs : List Pr} {n : Int} (hg : GoodC ms bs n) (x : Str) : GoodC (wo x ms) bs n := ⟨Nat.le_trans (List.length_filter_le _ _) hg.lm, (List.filter_sublist.map _).nodup hg.nd, hg.lb, hg.nb, fun p hp => hg.gm p (List.mem_filter.mp hp).1, hg.gb, hg.n0, hg.n1⟩
def SWithout (C : Addr) (g : F) : Prop := ∀ (S : Sto) (ms bs : List Pr) (n : Int) (x : Str), GoodC ms bs n → x ∈ givs ms → g [crD C ms bs n, .str x] S = .ok (crD C (wo x ms) bs n) S
theorem ok_without (T : T61 K mg) : ∃ g, FnL P w K mg base 3 T.f_without T.fd_without ["circle", "name"] g ∧ SWithout T.C_Circle g := by
  obtain ⟨gi, Fn_Circle___init__, le_Circle⟩ := ok_cinit (P := P) (w := w) (base := base) T
  obtain ⟨gh, Fn_Circle_house_of, Sh⟩ := ok_house (P := P) (w := w) (base := base) T
  refine ⟨_, Fun.okL T.F_without sc_without fun cdv A outer s H E hr =>
(pssl_cons (psl_expr (pel_meth T.cl_Circle T.mt_Circle_house_of Fn_Circle_house_of (hr.mono (by decide)) T.b_Circle_house_of dfl_nil (pel_var (i := 0)) (pal_cons (pel_var (i := 1)) pal_nil)))
  (pssl_cons (psl_set (i := 2) sc_without.nd (pel_callTy cl_ftuple rfl T.n_tuple (by decide +kernel) (pal_cons (pel_lc (own := [("member", 3)]) rfl sc_without.nd (pil_val (pel_fld T.cl_Circle T.na_Circle_members (pel_var (i := 0)))) (blkOk_by (N := N_without) (sc := defScope s_without) (by decide +kernel)) (fun _ _ _ _ _ => (pgl_name (i := 3) sc_without.nd)) (fun _ _ _ _ _ => (ptsl_one (ptl_cmp (opl_ne hr.units) (pel_ix ixl_seq (pel_var (i := 3)) pel_int) (pel_var (i := 1))))) (fun _ _ _ _ _ => (pel_var (i := 3)))) pal_nil)))
  (pssl_one (psl_ret (pel_make (n := 4) T.mk_Circle Fn_Circle___init__ le_Circle (hr.mono (by decide)) rfl T.mg_Circle T.b4 dfl_nil (pal_cons (pel_var (i := 2)) (pal_cons (pel_fld T.cl_Circle T.na_Circle_bars (pel_var (i := 0))) (pal_cons (pel_fld T.cl_Circle T.na_Circle_past (pel_var (i := 0))) (pal_cons (pel_fld T.cl_Circle T.na_Circle_gap (pel_var (i := 0))) pal_nil))))))))), ?_⟩
  intro S ms bs n x hg hx
  obtain ⟨p, hp, rfl⟩ := List.mem_map.mp hx
  refine body_rt (seq_nx (expr_ok (meth_ok (d := crD T.C_Circle ms bs n) rfl (recv_ci (by decide)) (acons_ok rfl rfl) rfl (Sh S ms bs n p hg hp))) (seq_nx (set_ok (callb_ok (acons_ok (comp_okL (iter_ok (fld_ci rfl rfl) rfl) (by have := hg.lm; rw [psD_len]; omega) (comp_filter (enc := pD) (f := pD) (p := fun q : Pr => !decide (q.1 = p.1)) trivial ms fun q hq => ⟨_, rfl, tru_b (bin_ok (bin_ok rfl rfl rfl) rfl ne_ss) rfl, fun _ => rfl⟩)) rfl) rfl)) (ret_ok (call_ok (acons_ok rfl (acons_ok (fld_ci rfl rfl) (acons_ok (fld_ci rfl rfl) (acons_ok (fld_ci rfl rfl) rfl)))) rfl ?_))))
  exact crF_of (good_wo hg p.1)
end
end K61

namespace MP
open PySem PySem.Spec PyProof.Rows L2
theorem body_ex {n : Nat} {lb : LS} {ds : List D} {S S' : Sto} {C : Addr} {fs : List (Str × D)} {ρ : Ev} (h : lb (ds.map some ++ List.replicate (n - ds.length) none) S = .ok (.ex C fs ρ) S') : bodyF n lb ds S = .exc C fs S' := by
  unfold bodyF; rw [h]; rfl
theorem seq_ex {l1 l2 : LS} {ρ ρ' : Ev} {S S1 : Sto} {C : Addr} {fs : List (Str × D)} (h : l1 ρ S = .ok (.ex C fs ρ') S1) : lSeq l1 l2 ρ S = .ok (.ex C fs ρ') S1 := by
  unfold lSeq; rw [h]; rfl
end MP
namespace K61
open PySem PySem.Spec PyProof.Rows L2 MP TL
open K59 (Pr nm givs taks slt isL lets nm_ok sle sorted_strs cnt_nodup slt_trans slt_irrefl)
/-! ### what a club does -/
theorem st_at {C : Addr} {f : Str} {S : Sto} {c : Nat} {fs : List (Str × D)} {d : D} (hc : S[c]? = some (.ins C fs)) (h : fs.length < 1000) : stFld C f S (.ref c) d = some (S.set c (.ins C (putD f d fs))) := by
  unfold stFld
  dsimp only
  rw [hc]
  dsimp only
  rw [if_pos ⟨rfl, h⟩]
theorem get_set {S : Sto} {c : Nat} {o o' : O} (h : S[c]? = some o) : (S.set c o')[c]? = some o' := by
  rw [List.getElem?_set_self (List.getElem?_eq_some_iff.mp h).1]
theorem get_set_ne {S : Sto} {c k : Nat} {o' : O} (h : c ≠ k) : (S.set c o')[k]? = S[k]? := List.getElem?_set_ne h
theorem isl_at {S : Sto} {k : Nat} {xs : List D} (h : S[k]? = some (.lst xs)) : isTy "list" S (.ref k) = true := by
  unfold isTy
  rw [vref h]
  rfl
theorem frs {c h : Nat} {S : Sto} {o : O} : Fr2 c h S (S.set c o) := ⟨by simp, fun k h1 _ _ => get_set_ne (Ne.symm h1)⟩
theorem frs' {c h : Nat} {S : Sto} {o : O} : Fr2 c h S (S.set h o) := ⟨by simp, fun k _ h2 _ => get_set_ne (Ne.symm h2)⟩
section
variable {P : Program} {w : World} {K : PySem.W.Frag} {mg : Str → Option Value} {base : Heap}
def SNew (C : Addr) (g : F) : Prop := ∀ (S : Sto) (n : Int), mkF C g [.int n] S = .ok (.ref S.length) (S ++ [.ins C (clFs [] [] n (S.length + 1)), .lst []])
theorem ok_kinit (T : T61 K mg) : ∃ g, FnL P w K mg base 1 T.f_Club___init__ T.fd_Club___init__ ["self", "gap"] g ∧ SNew T.C_Club g := by
  refine ⟨_, FunD.okL T.F_Club___init__ sc_Club___init__ fun cdv A outer s H E hr =>
(pssl_cons (psl_fld T.cl_Club T.na_Club_kept_gap (pel_var (i := 0)) (pel_var (i := 1)))
  (pssl_cons (psl_fld T.cl_Club T.na_Club_kept_members (pel_var (i := 0)) pel_tup0)
  (pssl_cons (psl_fld T.cl_Club T.na_Club_kept_bars (pel_var (i := 0)) pel_tup0)
  (pssl_cons (psl_fld T.cl_Club T.na_Club_kept_years (pel_var (i := 0)) pel_tup0)
  (pssl_one (psl_fld T.cl_Club T.na_Club_states_had (pel_var (i := 0)) (pel_lstN pal_nil))))))), ?_⟩
  intro S n
  have st : ∀ (f : Str) (d : D) (fs : List (Str × D)) (le : LE) (ρ : Ev), ρ[0]? = some (some (D.ref S.length)) → fs.length < 100 → le ρ (S ++ [.ins T.C_Club fs]) = .ok d (S ++ [.ins T.C_Club fs]) → lStF T.C_Club f (lVar 0) le ρ (S ++ [.ins T.C_Club fs]) = .ok (.nx ρ) (S ++ [.ins T.C_Club (putD f d fs)]) := fun f d fs le ρ h0 hl h => stF_ok h (by unfold lVar; rw [h0]) (st_new (by omega))
  have hlast : ∀ (fs : List (Str × D)), fs.length < 100 → stFld T.C_Club "states_had" ((S ++ [.ins T.C_Club fs]) ++ [.lst []]) (.ref S.length) (.ref (S.length + 1)) = some (S ++ [.ins T.C_Club (putD "states_had" (.ref (S.length + 1)) fs), .lst []]) := fun fs hl => by
    rw [List.append_assoc]
    have e : (S ++ ([O.ins T.C_Club fs] ++ [O.lst []]))[S.length]? = some (.ins T.C_Club fs) := by simp
    rw [st_at e (by omega)]
    simp
  have hlen : ∀ fs : List (Str × D), (S ++ [O.ins T.C_Club fs]).length = S.length + 1 := fun fs => by simp
  unfold mkF
  rw [body_nx (ds := [.ref S.length, .int n]) (S' := S ++ [.ins T.C_Club (clFs [] [] n (S.length + 1)), .lst []])
    (seq_nx (st "kept_gap" (.int n) [] _ _ rfl (Nat.le_of_ble_eq_true rfl) rfl)
    (seq_nx (st "kept_members" (.ftup []) _ _ _ rfl (Nat.le_of_ble_eq_true rfl) rfl)
    (seq_nx (st "kept_bars" (.ftup []) _ _ _ rfl (Nat.le_of_ble_eq_true rfl) rfl)
    (seq_nx (st "kept_years" (.ftup []) _ _ _ rfl (Nat.le_of_ble_eq_true rfl) rfl)
    (stF_ok (lstN_ok rfl (by simp)) rfl (by rw [hlen]; exact hlast _ (Nat.le_of_ble_eq_true rfl)))))))]
  rfl
def SCirc (C C2 : Addr) (g : F) : Prop := ∀ (S : Sto) (c h : Nat) (q : StP) (n : Int) (hist : List StP), ClubAt C c h S q n hist → GoodC q.1 q.2 n → g [.ref c] S = .ok (crD C2 q.1 q.2 n) S
theorem ok_circ (T : T61 K mg) : ∃ g, FnL P w K mg base 3 T.f_Club_circle T.fd_Club_circle ["self"] g ∧ SCirc T.C_Club T.C_Circle g := by
  obtain ⟨gi, Fn_Circle___init__, le_Circle⟩ := ok_cinit (P := P) (w := w) (base := base) T
  refine ⟨_, Fun.okL T.F_Club_circle sc_Club_circle fun cdv A outer s H E hr =>
(pssl_one (psl_ret (pel_make (n := 4) T.mk_Circle Fn_Circle___init__ le_Circle (hr.mono (by decide)) rfl T.mg_Circle T.b4 dfl_nil (pal_cons (pel_fld T.cl_Club T.na_Club_kept_members (pel_var (i := 0))) (pal_cons (pel_fld T.cl_Club T.na_Club_kept_bars (pel_var (i := 0))) (pal_cons (pel_fld T.cl_Club T.na_Club_kept_years (pel_var (i := 0))) (pal_cons (pel_fld T.cl_Club T.na_Club_kept_gap (pel_var (i := 0))) pal_nil))))))), ?_⟩
  intro S c h q n hist ha hg
  exact body_rt (ret_ok (call_ok (acons_ok (fld_at rfl ha.at_ rfl) (acons_ok (fld_at rfl ha.at_ rfl) (acons_ok (fld_at rfl ha.at_ rfl) (acons_ok (fld_at rfl ha.at_ rfl) rfl)))) rfl (crF_of hg)))
def SIsT (C : Addr) (g : F) : Prop := ∀ (S : Sto) (c h : Nat) (q : StP) (n : Int) (hist : List StP) (x : Str), ClubAt C c h S q n hist → q.1.length ≤ 1000 → g [.ref c, .str x] S = .ok (.bl (decide (x ∈ givs q.1))) S
theorem ok_isT (T : T61 K mg) : ∃ g, FnL P w K mg base 1 T.f_Club_is_there T.fd_Club_is_there ["self", "name"] g ∧ SIsT T.C_Club g := by
  refine ⟨_, Fun.okL T.F_Club_is_there sc_Club_is_there fun cdv A outer s H E hr =>
(pssl_one (psl_ret (pel_cmp opl_inL (pel_var (i := 1)) (pel_lc (own := [("member", 2)]) rfl sc_Club_is_there.nd (pil_val (pel_fld T.cl_Club T.na_Club_kept_members (pel_var (i := 0)))) (blkOk_by (N := N_Club_is_there) (sc := defScope s_Club_is_there) (by decide +kernel)) (fun _ _ _ _ _ => (pgl_name (i := 2) sc_Club_is_there.nd)) (fun _ _ _ _ _ => ptsl_nil) (fun _ _ _ _ _ => (pel_ix ixl_seq (pel_var (i := 2)) pel_int)))))), ?_⟩
  intro S c h q n hist x ha hl
  have hin : gInL S (.str x) (.lst ((givs q.1).map D.str)) = some (.bl (decide (x ∈ givs q.1))) := by
    show (strsD ((givs q.1).map D.str)).map (fun ys => D.bl (decide (x ∈ ys))) = _
    rw [strsD_map]
    rfl
  have hcomp : lComp (lIter (lFld T.C_Club "kept_members" (lVar 0))) [2] (gtName 2) tYesL (lBin gIx (lVar 2) (lC (.int 0))) [some (.ref c), some (.str x), none] S = .ok (.lst ((givs q.1).map D.str)) S := by
    refine (comp_okL (iter_ok (fld_at rfl ha.at_ rfl) rfl) (by rw [psD_len]; omega) (comp_map (enc := pD) (f := fun p => D.str p.1) trivial q.1 fun p hp => ⟨_, rfl, bin_ok rfl rfl rfl⟩)).trans ?_
    unfold givs
    rw [List.map_map]
    rfl
  exact body_rt (ret_ok (bin_ok rfl hcomp hin))
def SBecome (C : Addr) (g : F) : Prop := ∀ (S : Sto) (c h : Nat) (q q' : StP) (n : Int) (hist : List StP), ClubAt C c h S q n hist → hist.length ≤ 200 → ∃ S', g [.ref c, .ftup (psD q'.1), .ftup (psD q'.2), .ftup []] S = .ok .non S' ∧ ClubAt C c h S' q' n (hist ++ [q]) ∧ Fr2 c h S S'
theorem ok_become (T : T61 K mg) : ∃ g, FnL P w K mg base 1 T.f_Club_become T.fd_Club_become ["self", "members", "bars", "years"] g ∧ SBecome T.C_Club g := by
  refine ⟨_, Fun.okL T.F_Club_become sc_Club_become fun cdv A outer s H E hr =>
(pssl_cons (psl_expr (pel_append (pel_fld T.cl_Club T.na_Club_states_had (pel_var (i := 0))) (pel_tup (pal_cons (pel_fld T.cl_Club T.na_Club_kept_members (pel_var (i := 0))) (pal_cons (pel_fld T.cl_Club T.na_Club_kept_bars (pel_var (i := 0))) (pal_cons (pel_fld T.cl_Club T.na_Club_kept_years (pel_var (i := 0))) pal_nil))))))
  (pssl_cons (psl_fld T.cl_Club T.na_Club_kept_members (pel_var (i := 0)) (pel_var (i := 1)))
  (pssl_cons (psl_fld T.cl_Club T.na_Club_kept_bars (pel_var (i := 0)) (pel_var (i := 2)))
  (pssl_one (psl_fld T.cl_Club T.na_Club_kept_years (pel_var (i := 0)) (pel_var (i := 3))))))), ?_⟩
  intro S c h q q' n hist ha hl
  have h1 := ha.at_
  have h2 := ha.his
  have e1 : (S.set h (.lst ((hist ++ [q]).map stT)))[c]? = some (.ins T.C_Club (clFs q.1 q.2 n h)) := by rw [get_set_ne (Ne.symm ha.ne)]; exact h1
  have e2 := get_set (o' := .ins T.C_Club (clFs q'.1 q.2 n h)) e1
  have e3 := get_set (o' := .ins T.C_Club (clFs q'.1 q'.2 n h)) e2
  have e4 := get_set (o' := .ins T.C_Club (clFs q'.1 q'.2 n h)) e3
  refine ⟨_, body_nx (seq_nx (expr_ok (bm_ok (fld_at rfl h1 rfl) (isl_at h2) (acons_ok (tup_ok (acons_ok (fld_at rfl h1 rfl) (acons_ok (fld_at rfl h1 rfl) (acons_ok (fld_at rfl h1 rfl) rfl))) (by simp)) rfl) (by
      rw [app_ok h2 (by rw [List.length_map]; omega)]
      have : hist.map stT ++ [stT q] = (hist ++ [q]).map stT := by simp
      rw [← this]
      rfl)))
    (seq_nx (stF_ok rfl rfl (st_at e1 (Nat.le_of_ble_eq_true rfl))) (seq_nx (stF_ok rfl rfl (st_at e2 (Nat.le_of_ble_eq_true rfl))) (stF_ok rfl rfl (st_at e3 (Nat.le_of_ble_eq_true rfl)))))), ⟨e4, ?_, ha.ne⟩, ?_⟩
  · rw [get_set_ne ha.ne, get_set_ne ha.ne, get_set_ne ha.ne]
    exact get_set h2
  · exact frs'.trans (frs.trans (frs.trans frs))
end
end K61

namespace K61
open PySem PySem.Spec PyProof.Rows L2 MP TL
open K59 (Pr nm givs taks slt isL lets nm_ok sle sorted_strs cnt_nodup slt_trans slt_irrefl)
/-! ### the deeds -/
theorem asg3A_ok {k r : Nat} {C : Addr} {f1 f2 f3 : Str} {le : LE} {ρ : Ev} {S S1 S2 S3 S4 : Sto} {a b c : D} (h : le ρ S = .ok (.tup [a, b, c]) S1) (hk : ρ[k]? = some (some (.ref r))) (h1 : stFld C f1 S1 (.ref r) a = some S2) (h2 : stFld C f2 S2 (.ref r) b = some S3) (h3 : stFld C f3 S3 (.ref r) c = some S4) :
    lAsg3A k C f1 f2 f3 le ρ S = .ok (.nx ρ) S4 := by
  unfold lAsg3A
  rw [h]
  show (match ρ[k]? with
    | some (some (.ref r)) => (match stFld C f1 S1 (.ref r) a with
      | some S2 => (match stFld C f2 S2 (.ref r) b with
        | some S3 => liftS (stFld C f3 S3 (.ref r) c) ρ
        | none => .bad)
      | none => .bad)
    | _ => (.bad : R Fl)) = _
  rw [hk]
  dsimp only
  rw [h1]
  dsimp only
  rw [h2]
  dsimp only
  rw [h3]
  rfl
section
variable {P : Program} {w : World} {K : PySem.W.Frag} {mg : Str → Option Value} {base : Heap}
def SJoin (C : Addr) (g : F) : Prop := ∀ (S : Sto) (c h : Nat) (q : StP) (n : Int) (hist : List StP) (x y : Str), ClubAt C c h S q n hist → hist.length ≤ 200 → q.1.length ≤ 100 → x ∉ givs q.1 →
  ∃ S', g [.ref c, .str x, .str y] S = .ok .non S' ∧ ClubAt C c h S' ((q.1 ++ [(x, y)]).mergeSort leP, q.2) n (hist ++ [q]) ∧ Fr2 c h S S'
theorem ok_join (T : T61 K mg) : ∃ g, FnL P w K mg base 2 T.f_Club_join T.fd_Club_join ["self", "name", "house"] g ∧ SJoin T.C_Club g := by
  obtain ⟨gt, Fn_Club_is_there, St⟩ := ok_isT (P := P) (w := w) (base := base) T
  obtain ⟨gb, Fn_Club_become, Sb⟩ := ok_become (P := P) (w := w) (base := base) T
  refine ⟨_, FunD.okL T.F_Club_join sc_Club_join fun cdv A outer s H E hr =>
(pssl_cons (psl_if (ptl_truth (pel_meth T.cl_Club T.mt_Club_is_there Fn_Club_is_there (hr.mono (by decide)) T.b_Club_is_there dfl_nil (pel_var (i := 0)) (pal_cons (pel_var (i := 1)) pal_nil))) (pssl_one psl_bad) pssl_nil)
  (pssl_one (psl_expr (pel_meth T.cl_Club T.mt_Club_become Fn_Club_become (hr.mono (by decide)) T.b_Club_become dfl_nil (pel_var (i := 0)) (pal_cons (pel_callTy cl_ftuple rfl T.n_tuple (by decide +kernel) (pal_cons (pel_callB (cl_sortedT hr.units) rfl T.n_sorted (by decide +kernel) (pal_cons (pel_op opl_add3 (pel_fld T.cl_Club T.na_Club_kept_members (pel_var (i := 0))) (pel_tup (pal_cons (pel_tup (pal_cons (pel_var (i := 1)) (pal_cons (pel_var (i := 2)) pal_nil))) pal_nil))) pal_nil)) pal_nil)) (pal_cons (pel_fld T.cl_Club T.na_Club_kept_bars (pel_var (i := 0))) (pal_cons (pel_fld T.cl_Club T.na_Club_kept_years (pel_var (i := 0))) pal_nil))))))), ?_⟩
  intro S c h q n hist x y ha hl hm hx
  obtain ⟨S', e1, e2, e3⟩ := Sb S c h q ((q.1 ++ [(x, y)]).mergeSort leP, q.2) n hist ha hl
  refine ⟨S', ?_, e2, e3⟩
  exact body_nx (seq_nx (if_ff (tru_b (meth_ok (d := .ref c) rfl (recv_at2 ha.at_ rfl) (acons_ok rfl rfl) rfl (St S c h q n hist x ha (by omega))) (decide_eq_false hx)) rfl)
    (expr_ok (meth_ok (d := .ref c) rfl (recv_at2 ha.at_ rfl) (acons_ok (callb_ok (acons_ok (callb_ok (acons_ok (bin_ok (fld_at rfl ha.at_ rfl) (tup_ok (acons_ok (tup_ok (acons_ok rfl (acons_ok rfl rfl)) (by simp)) rfl) (by simp)) (catF_ok (p := (x, y)) (by omega))) rfl) (sortedT_ok (by simp; omega))) rfl) rfl) (acons_ok (fld_at rfl ha.at_ rfl) (acons_ok (fld_at rfl ha.at_ rfl) rfl))) rfl e1)))
def SLeave (C : Addr) (g : F) : Prop := ∀ (S : Sto) (c h : Nat) (q : StP) (n : Int) (hist : List StP) (x : Str), ClubAt C c h S q n hist → hist.length ≤ 200 → GoodC q.1 q.2 n → x ∈ givs q.1 →
  ∃ S', g [.ref c, .str x] S = .ok .non S' ∧ ClubAt C c h S' (wo x q.1, q.2) n (hist ++ [q]) ∧ Fr2 c h S S'
theorem ok_leave (T : T61 K mg) : ∃ g, FnL P w K mg base 4 T.f_Club_leave T.fd_Club_leave ["self", "name"] g ∧ SLeave T.C_Club g := by
  obtain ⟨gc, Fn_Club_circle, Sc⟩ := ok_circ (P := P) (w := w) (base := base) T
  obtain ⟨gw, Fn_without, Sw⟩ := ok_without (P := P) (w := w) (base := base) T
  obtain ⟨gb, Fn_Club_become, Sb⟩ := ok_become (P := P) (w := w) (base := base) T
  refine ⟨_, Fun.okL T.F_Club_leave sc_Club_leave fun cdv A outer s H E hr =>
(pssl_one (psl_expr (pel_meth T.cl_Club T.mt_Club_become Fn_Club_become (hr.mono (by decide)) T.b_Club_become dfl_nil (pel_var (i := 0)) (pal_cons (pel_fld T.cl_Circle T.na_Circle_members (pel_call Fn_without (hr.mono (by decide)) rfl T.mg_without T.F_without.kp T.b_without dfl_nil (pal_cons (pel_meth0 T.cl_Club T.mt_Club_circle Fn_Club_circle (hr.mono (by decide)) T.b_Club_circle dfl_nil (pel_var (i := 0))) (pal_cons (pel_var (i := 1)) pal_nil)))) (pal_cons (pel_fld T.cl_Club T.na_Club_kept_bars (pel_var (i := 0))) (pal_cons (pel_fld T.cl_Club T.na_Club_kept_years (pel_var (i := 0))) pal_nil)))))), ?_⟩
  intro S c h q n hist x ha hl hg hx
  obtain ⟨S', e1, e2, e3⟩ := Sb S c h q (wo x q.1, q.2) n hist ha hl
  refine ⟨S', ?_, e2, e3⟩
  have hf : gFld T.C_Circle "members" S (crD T.C_Circle (wo x q.1) q.2 n) = some (.ftup (psD (wo x q.1))) := by
    show (if T.C_Circle = T.C_Circle then (crFs (wo x q.1) q.2 n).lookup ("members" : Str) else none) = _
    rw [if_pos rfl]
    rfl
  exact body_nx (expr_ok (meth_ok (d := .ref c) rfl (recv_at2 ha.at_ rfl) (acons_ok (fld_ok (call_ok (acons_ok (meth_ok (d := .ref c) (ds := []) rfl (recv_at2 ha.at_ rfl) rfl rfl (Sc S c h q n hist ha hg)) (acons_ok rfl rfl)) rfl (Sw S q.1 q.2 n x hg hx)) hf) (acons_ok (fld_at rfl ha.at_ rfl) (acons_ok (fld_at rfl ha.at_ rfl) rfl))) rfl e1))
def SBar (C : Addr) (g : F) : Prop := ∀ (S : Sto) (c h : Nat) (q : StP) (n : Int) (hist : List StP) (x y : Str), ClubAt C c h S q n hist → hist.length ≤ 200 → GoodC q.1 q.2 n → x ∈ givs q.1 → y ∈ givs q.1 → gdP (x, y) → (x, y) ∉ q.2 →
  ∃ S', g [.ref c, .str x, .str y] S = .ok .non S' ∧ ClubAt C c h S' (q.1, (q.2 ++ [(x, y)]).mergeSort leP) n (hist ++ [q]) ∧ Fr2 c h S S'
theorem ok_bar (T : T61 K mg) : ∃ g, FnL P w K mg base 2 T.f_Club_bar T.fd_Club_bar ["self", "giver", "taker"] g ∧ SBar T.C_Club g := by
  obtain ⟨gt, Fn_Club_is_there, St⟩ := ok_isT (P := P) (w := w) (base := base) T
  obtain ⟨gb, Fn_Club_become, Sb⟩ := ok_become (P := P) (w := w) (base := base) T
  refine ⟨_, Fun.okL T.F_Club_bar sc_Club_bar fun cdv A outer s H E hr =>
(pssl_cons (psl_for (passes_of rfl) rfl (pil_val (pel_tup (pal_cons (pel_var (i := 1)) (pal_cons (pel_var (i := 2)) pal_nil)))) (pgl_name (i := 3) sc_Club_bar.nd) (pssl_one (psl_if (ptl_not (ptl_truth (pel_meth T.cl_Club T.mt_Club_is_there Fn_Club_is_there (hr.mono (by decide)) T.b_Club_is_there dfl_nil (pel_var (i := 0)) (pal_cons (pel_var (i := 3)) pal_nil)))) (pssl_one psl_bad) pssl_nil)))
  (pssl_cons (psl_if (ptl_cmp (opl_inD hr.units65) (pel_tup (pal_cons (pel_var (i := 1)) (pal_cons (pel_var (i := 2)) pal_nil))) (pel_fld T.cl_Club T.na_Club_kept_bars (pel_var (i := 0)))) (pssl_one psl_bad) pssl_nil)
  (pssl_one (psl_expr (pel_meth T.cl_Club T.mt_Club_become Fn_Club_become (hr.mono (by decide)) T.b_Club_become dfl_nil (pel_var (i := 0)) (pal_cons (pel_fld T.cl_Club T.na_Club_kept_members (pel_var (i := 0))) (pal_cons (pel_callTy cl_ftuple rfl T.n_tuple (by decide +kernel) (pal_cons (pel_callB (cl_sortedT hr.units) rfl T.n_sorted (by decide +kernel) (pal_cons (pel_op opl_add3 (pel_fld T.cl_Club T.na_Club_kept_bars (pel_var (i := 0))) (pel_tup (pal_cons (pel_tup (pal_cons (pel_var (i := 1)) (pal_cons (pel_var (i := 2)) pal_nil))) pal_nil))) pal_nil)) pal_nil)) (pal_cons (pel_fld T.cl_Club T.na_Club_kept_years (pel_var (i := 0))) pal_nil)))))))), ?_⟩
  intro S c h q n hist x y ha hl hg hx hy hxy hn
  obtain ⟨S', e1, e2, e3⟩ := Sb S c h q (q.1, (q.2 ++ [(x, y)]).mergeSort leP) n hist ha hl
  refine ⟨S', ?_, e2, e3⟩
  have hm := hg.lm
  have hb := hg.lb
  have one : ∀ (z : Str), z ∈ givs q.1 → ∀ o : Option D, (lIfS (MP.tNot (tTru (lMeth T.C_Club "is_there" 2 gt [] (lVar 0) (aCons (lVar 3) aNil)))) lBad lNext) [some (.ref c), some (.str x), some (.str y), some (.str z)] S = .ok (.nx [some (.ref c), some (.str x), some (.str y), some (.str z)]) S := fun z hz o =>
    if_ff (not_ok (b := true) (tru_b (meth_ok (d := .ref c) rfl (recv_at2 ha.at_ rfl) (acons_ok rfl rfl) rfl (St S c h q n hist z ha (by omega))) (decide_eq_true hz))) rfl
  exact body_nx (seq_nx (for_ok (iter_ok (tup_ok (acons_ok rfl (acons_ok rfl rfl)) (by simp)) rfl) (for_go trivial rfl (one x hx none) (for_go trivial rfl (one y hy none) (for_end trivial))))
    (seq_nx (if_ff (tru_b (bin_ok (tup_ok (acons_ok rfl (acons_ok rfl rfl)) (by simp)) (fld_at rfl ha.at_ rfl) (in_ps hxy hg.gb (.inl rfl)).1) (decide_eq_false hn)) rfl)
    (expr_ok (meth_ok (d := .ref c) rfl (recv_at2 ha.at_ rfl) (acons_ok (fld_at rfl ha.at_ rfl) (acons_ok (callb_ok (acons_ok (callb_ok (acons_ok (bin_ok (fld_at rfl ha.at_ rfl) (tup_ok (acons_ok (tup_ok (acons_ok rfl (acons_ok rfl rfl)) (by simp)) rfl) (by simp)) (catF_ok (p := (x, y)) (by omega))) rfl) (sortedT_ok (by simp; omega))) rfl) rfl) (acons_ok (fld_at rfl ha.at_ rfl) rfl))) rfl e1))))
def woP (p : Pr) (bs : List Pr) : List Pr := bs.filter fun q => !decide (q = p)
def SUnbar (C : Addr) (g : F) : Prop := ∀ (S : Sto) (c h : Nat) (q : StP) (n : Int) (hist : List StP) (x y : Str), ClubAt C c h S q n hist → hist.length ≤ 200 → GoodC q.1 q.2 n → (x, y) ∈ q.2 →
  ∃ S', g [.ref c, .str x, .str y] S = .ok .non S' ∧ ClubAt C c h S' (q.1, woP (x, y) q.2) n (hist ++ [q]) ∧ Fr2 c h S S'
theorem ok_unbar (T : T61 K mg) : ∃ g, FnL P w K mg base 2 T.f_Club_unbar T.fd_Club_unbar ["self", "giver", "taker"] g ∧ SUnbar T.C_Club g := by
  obtain ⟨gb, Fn_Club_become, Sb⟩ := ok_become (P := P) (w := w) (base := base) T
  refine ⟨_, Fun.okL T.F_Club_unbar sc_Club_unbar fun cdv A outer s H E hr =>
(pssl_cons (psl_if (ptl_cmp (opl_notInD hr.units65) (pel_tup (pal_cons (pel_var (i := 1)) (pal_cons (pel_var (i := 2)) pal_nil))) (pel_fld T.cl_Club T.na_Club_kept_bars (pel_var (i := 0)))) (pssl_one psl_bad) pssl_nil)
  (pssl_cons (psl_set (i := 3) sc_Club_unbar.nd (pel_callTy cl_ftuple rfl T.n_tuple (by decide +kernel) (pal_cons (pel_lc (own := [("pair", 4)]) rfl sc_Club_unbar.nd (pil_val (pel_fld T.cl_Club T.na_Club_kept_bars (pel_var (i := 0)))) (blkOk_by (N := N_Club_unbar) (sc := defScope s_Club_unbar) (by decide +kernel)) (fun _ _ _ _ _ => (pgl_name (i := 4) sc_Club_unbar.nd)) (fun _ _ _ _ _ => (ptsl_one (ptl_cmp (opl_ne hr.units) (pel_var (i := 4)) (pel_tup (pal_cons (pel_var (i := 1)) (pal_cons (pel_var (i := 2)) pal_nil)))))) (fun _ _ _ _ _ => (pel_var (i := 4)))) pal_nil)))
  (pssl_one (psl_expr (pel_meth T.cl_Club T.mt_Club_become Fn_Club_become (hr.mono (by decide)) T.b_Club_become dfl_nil (pel_var (i := 0)) (pal_cons (pel_fld T.cl_Club T.na_Club_kept_members (pel_var (i := 0))) (pal_cons (pel_var (i := 3)) (pal_cons (pel_fld T.cl_Club T.na_Club_kept_years (pel_var (i := 0))) pal_nil)))))))), ?_⟩
  intro S c h q n hist x y ha hl hg hn
  obtain ⟨S', e1, e2, e3⟩ := Sb S c h q (q.1, woP (x, y) q.2) n hist ha hl
  refine ⟨S', ?_, e2, e3⟩
  have hb := hg.lb
  have hxy := hg.gb _ hn
  exact body_nx (seq_nx (if_ff (tru_b (bin_ok (tup_ok (acons_ok rfl (acons_ok rfl rfl)) (by simp)) (fld_at rfl ha.at_ rfl) (in_ps hxy hg.gb (.inl rfl)).2) (by rw [decide_eq_true hn]; rfl)) rfl)
    (seq_nx (set_ok (callb_ok (acons_ok (comp_okL (iter_ok (fld_at rfl ha.at_ rfl) rfl) (by rw [psD_len]; omega) (comp_filter (enc := pD) (f := pD) (p := fun r : Pr => !decide (r = (x, y))) trivial q.2 fun r hr2 => ⟨_, rfl, tru_b (bin_ok rfl (tup_ok (acons_ok rfl (acons_ok rfl rfl)) (by simp)) (ne_pp (q := (x, y)) (hg.gb r hr2) hxy)) rfl, fun _ => rfl⟩)) rfl) rfl))
    (expr_ok (meth_ok (d := .ref c) rfl (recv_at2 ha.at_ rfl) (acons_ok (fld_at rfl ha.at_ rfl) (acons_ok rfl (acons_ok (fld_at rfl ha.at_ rfl) rfl))) rfl e1))))
def SBack (C N : Addr) (g : F) : Prop := ∀ (S : Sto) (c h : Nat) (q : StP) (n : Int) (hist : List StP), ClubAt C c h S q n hist → HistOk hist →
  (hist = [] → g [.ref c] S = .exc N [] S) ∧ ∀ hs q', hist = hs ++ [q'] → ∃ S', g [.ref c] S = .ok .non S' ∧ ClubAt C c h S' q' n hs ∧ Fr2 c h S S'
theorem ok_back (T : T61 K mg) : ∃ g, FnL P w K mg base 1 T.f_Club_back T.fd_Club_back ["self"] g ∧ SBack T.C_Club T.C_NoBack g := by
  refine ⟨_, Fun.okL T.F_Club_back sc_Club_back fun cdv A outer s H E hr =>
(pssl_cons (psl_if (ptl_cmp (opl_eq hr.units) (pel_fld T.cl_Club T.na_Club_states_had (pel_var (i := 0))) (pel_lst pal_nil)) (pssl_one (psl_raise1 rfl PySem.F.excBase_ValueError T.xi_NoBack T.mg_NoBack T.kc_NoBack (raises_own T.ex_NoBack T.ty_NoBack) rfl)) pssl_nil)
  (pssl_one (psl_asg3A (k := 0) rfl T.cl_Club T.na_Club_kept_members T.na_Club_kept_bars T.na_Club_kept_years (pel_pop (pel_fld T.cl_Club T.na_Club_states_had (pel_var (i := 0)))) rfl (by first | exact .inl rfl | exact .inr (.inl rfl) | exact .inr (.inr rfl)) rfl rfl (by decide) (by decide)))), ?_⟩
  intro S c h q n hist ha ho
  have he : gEq S (.ref h) (.lst []) = some (.bl (decide (hist = []))) := eq_hist ha.his ho
  refine ⟨fun hz => ?_, fun hs q' hz => ?_⟩
  · exact body_ex (seq_ex (if_tt (tru_b (bin_ok (fld_at rfl ha.at_ rfl) rfl he) (decide_eq_true hz)) rfl))
  · subst hz
    have hlast : ((hs ++ [q']).map stT)[((hs ++ [q']).map stT).length - 1]? = some (stT q') := by simp
    have hpop : stPop S (.ref h) [] = some (stT q', S.set h (.lst (hs.map stT))) := by
      unfold stPop
      dsimp only
      rw [ha.his]
      dsimp only
      rw [hlast]
      simp
    have e1 : (S.set h (.lst (hs.map stT)))[c]? = some (.ins T.C_Club (clFs q.1 q.2 n h)) := by rw [get_set_ne (Ne.symm ha.ne)]; exact ha.at_
    have e2 := get_set (o' := .ins T.C_Club (clFs q'.1 q.2 n h)) e1
    have e3 := get_set (o' := .ins T.C_Club (clFs q'.1 q'.2 n h)) e2
    have e4 := get_set (o' := .ins T.C_Club (clFs q'.1 q'.2 n h)) e3
    refine ⟨_, body_nx (seq_nx (if_ff (tru_b (bin_ok (fld_at rfl ha.at_ rfl) rfl he) (decide_eq_false (by simp))) rfl) (asg3A_ok (r := c) (bm_ok (fld_at rfl ha.at_ rfl) (isl_at ha.his) rfl hpop) rfl (st_at e1 (Nat.le_of_ble_eq_true rfl)) (st_at e2 (Nat.le_of_ble_eq_true rfl)) (st_at e3 (Nat.le_of_ble_eq_true rfl)))), ⟨e4, ?_, ha.ne⟩, ?_⟩
    · rw [get_set_ne ha.ne, get_set_ne ha.ne, get_set_ne ha.ne]
      exact get_set ha.his
    · exact frs'.trans (frs.trans (frs.trans frs))
def SLast (C N : Addr) (g : F) : Prop := ∀ (S : Sto) (c h : Nat) (q : StP) (n : Int) (hist : List StP), ClubAt C c h S q n hist → g [.ref c] S = .exc N [] S
theorem ok_last (T : T61 K mg) : ∃ g, FnL P w K mg base 1 T.f_Club_last T.fd_Club_last ["self"] g ∧ SLast T.C_Club T.C_NoYear g := by
  refine ⟨_, Fun.okL T.F_Club_last sc_Club_last fun cdv A outer s H E hr =>
(pssl_cons (psl_if (ptl_cmp (opl_eq hr.units) (pel_fld T.cl_Club T.na_Club_kept_years (pel_var (i := 0))) (pel_tup pal_nil)) (pssl_one (psl_raise1 rfl PySem.F.excBase_ValueError T.xi_NoYear T.mg_NoYear T.kc_NoYear (raises_own T.ex_NoYear T.ty_NoYear) rfl)) pssl_nil)
  (pssl_one psl_bad)), ?_⟩
  intro S c h q n hist ha
  have he : gEq S (.ftup []) (.tup []) = some (.bl true) := by kernel_rfl
  exact body_ex (seq_ex (if_tt (tru_b (bin_ok (fld_at rfl ha.at_ rfl) rfl he) rfl) rfl))
end
end K61

namespace MP
open PySem PySem.Spec PyProof.Rows L2
theorem trym_nx {lb : LS} {l : List (TabX × LS)} {ρ ρ' : Ev} {S S1 : Sto} (h : lb ρ S = .ok (.nx ρ') S1) : lTryM lb l ρ S = .ok (.nx ρ') S1 := by
  unfold lTryM; rw [h]; rfl
theorem trym_ex {lb : LS} {l : List (TabX × LS)} {ρ ρ' : Ev} {S S1 : Sto} {C : Addr} {fs : List (Str × D)} {r : R Fl} (h : lb ρ S = .ok (.ex C fs ρ') S1) (h2 : goM C fs ρ' S1 l = r) : lTryM lb l ρ S = r := by
  unfold lTryM; rw [h]; exact h2
theorem gom_tt {C : Addr} {fs : List (Str × D)} {ρ ρ' : Ev} {S S1 : Sto} {tab : TabX} {ls : LS} {r : List (TabX × LS)} (h : tab C = some true) (h2 : ls ρ S = .ok (.nx ρ') S1) : goM C fs ρ S ((tab, ls) :: r) = .ok (.nx ρ') S1 := by
  unfold goM; rw [h]; dsimp only; rw [h2]; rfl
theorem gom_ff {C : Addr} {fs : List (Str × D)} {ρ : Ev} {S : Sto} {tab : TabX} {ls : LS} {r : List (TabX × LS)} {x : R Fl} (h : tab C = some false) (h2 : goM C fs ρ S r = x) : goM C fs ρ S ((tab, ls) :: r) = x := by
  unfold goM; rw [h]; exact h2
theorem expr_ex {l : LE} {ρ : Ev} {S S1 : Sto} {C : Addr} {fs : List (Str × D)} (h : l ρ S = .exc C fs S1) : lExpr l ρ S = .ok (.ex C fs ρ) S1 := by
  unfold lExpr; rw [h]; rfl
end MP
namespace K61
open PySem PySem.Spec PyProof.Rows L2 MP TL
open K59 (Pr nm givs taks slt isL lets nm_ok sle sorted_strs cnt_nodup slt_trans slt_irrefl)
/-! ### what a club tells -/
open Classical in
noncomputable def clOf (C : Addr) (S : Sto) (d : D) : Option (List Pr × List Pr × Int) := if h : ∃ (q : List Pr × List Pr × Int) (c h0 : Nat) (hist : List StP), d = .ref c ∧ ClubAt C c h0 S (q.1, q.2.1) q.2.2 hist ∧ GoodC q.1 q.2.1 q.2.2 then some h.choose else none
theorem clFs_inj {ms bs ms' bs' : List Pr} {n n' : Int} {h h' : Nat} (e : clFs ms bs n h = clFs ms' bs' n' h') : ms = ms' ∧ bs = bs' ∧ n = n' := by
  unfold clFs at e
  injection e with e1 e
  injection e with e2 e
  injection e with e3 _
  injection e1 with _ e1
  injection e2 with _ e2
  injection e3 with _ e3
  injection e1 with e1
  injection e2 with e2
  injection e3 with e3
  exact ⟨psD_inj e2, psD_inj e3, e1⟩
theorem clOf_of {C : Addr} {S : Sto} {c h : Nat} {q : StP} {n : Int} {hist : List StP} (ha : ClubAt C c h S q n hist) (hg : GoodC q.1 q.2 n) : clOf C S (.ref c) = some (q.1, q.2, n) := by
  have hx : ∃ (q' : List Pr × List Pr × Int) (c' h0 : Nat) (hist : List StP), D.ref c = .ref c' ∧ ClubAt C c' h0 S (q'.1, q'.2.1) q'.2.2 hist ∧ GoodC q'.1 q'.2.1 q'.2.2 := ⟨(q.1, q.2, n), c, h, hist, rfl, ha, hg⟩
  unfold clOf
  rw [dif_pos hx]
  have z := hx.choose_spec
  generalize hx.choose = q' at z ⊢
  obtain ⟨c', h0, hist', e, ha', _⟩ := z
  cases e
  have e2 := ha.at_.symm.trans ha'.at_
  injection e2 with e2
  injection e2 with _ e2
  obtain ⟨a, b, c⟩ := q'
  obtain ⟨e3, e4, e5⟩ := clFs_inj e2
  dsimp only at e3 e4 e5
  rw [e3, e4, e5]
theorem clOf_inv {C : Addr} {S : Sto} {d : D} {a : List Pr × List Pr × Int} (h : clOf C S d = some a) : ∃ (c h0 : Nat) (hist : List StP), d = .ref c ∧ ClubAt C c h0 S (a.1, a.2.1) a.2.2 hist ∧ GoodC a.1 a.2.1 a.2.2 := by
  unfold clOf at h
  split at h
  · rename_i hx
    cases h
    exact hx.choose_spec
  · cases h
theorem isi_club {C C2 : Addr} {S : Sto} {c h : Nat} {q : StP} {n : Int} {hist : List StP} (ha : ClubAt C c h S q n hist) : gIsi (tabCl C C2) S (.ref c) = some (.bl true) := by
  unfold gIsi
  rw [vref ha.at_]
  show (if C = C then some true else _ : Option Bool).map D.bl = _
  rw [if_pos rfl]
  rfl
open Classical in
noncomputable def gpCl (C C2 : Addr) : G2 := fun S x y => (clOf C S x).bind fun a => match clOf C S y with
  | some b => some (.bl (decide (a = b)))
  | none => if gIsi (tabCl C C2) S y = some (.bl false) then some (.bl false) else none
noncomputable def gpLen (C : Addr) : Sto → D → Option D := fun S x => (clOf C S x).map fun _ => .int 0
noncomputable def gpStr (C : Addr) : Sto → D → Option D := fun S x => (clOf C S x).map fun q => .str (Txt.join "\n" (rowsC q.1 q.2.1 q.2.2))
theorem own_club {C C2 : Addr} {S : Sto} {c h : Nat} {q : StP} {n : Int} {hist : List StP} {y : D} {t : Tg} (ha : ClubAt C c h S q n hist) (ht : tgD (vw S y) = some t) (hm : t ∈ tsCl C C2) : gOwnEq C (tsCl C C2) (gpCl C C2) S (.ref c) y = gpCl C C2 S (.ref c) y := by
  unfold gOwnEq
  rw [vref ha.at_]
  show (if C = C then (match tgD (vw S y) with
    | some t => if t ∈ tsCl C C2 then gpCl C C2 S (.ref c) y else none
    | none => none) else none) = _
  rw [if_pos rfl, ht]
  dsimp only
  rw [if_pos hm]
/-- two clubs -/
theorem eq_clubs {C C2 : Addr} {S : Sto} {c h c' h' : Nat} {q q' : StP} {n n' : Int} {hist hist' : List StP} (ha : ClubAt C c h S q n hist) (hg : GoodC q.1 q.2 n) (hb : ClubAt C c' h' S q' n' hist') (hg' : GoodC q'.1 q'.2 n') :
    gOwnEq C (tsCl C C2) (gpCl C C2) S (.ref c) (.ref c') = some (.bl (decide ((q, n) = (q', n')))) ∧ gOwnNe C (tsCl C C2) (gpCl C C2) S (.ref c) (.ref c') = some (.bl (!decide ((q, n) = (q', n')))) := by
  have e : gOwnEq C (tsCl C C2) (gpCl C C2) S (.ref c) (.ref c') = some (.bl (decide ((q, n) = (q', n')))) := by
    rw [own_club (t := .obj C) ha (by rw [vref hb.at_]; rfl) (by simp [tsCl])]
    unfold gpCl
    rw [clOf_of ha hg, clOf_of hb hg']
    show some (D.bl (decide ((q.1, q.2, n) = (q'.1, q'.2, n')))) = _
    have : ((q.1, q.2, n) = (q'.1, q'.2, n')) ↔ ((q, n) = (q', n')) := by
      obtain ⟨a, b⟩ := q
      obtain ⟨a', b'⟩ := q'
      simp only [Prod.mk.injEq]
      exact ⟨fun ⟨h1, h2, h3⟩ => ⟨⟨h1, h2⟩, h3⟩, fun ⟨⟨h1, h2⟩, h3⟩ => ⟨h1, h2, h3⟩⟩
    rw [decide_eq_decide.mpr this]
  refine ⟨e, ?_⟩
  unfold gOwnNe
  rw [e]
  rfl
/-- a club and what is no club -/
theorem eq_thing {C C2 : Addr} {S : Sto} {c h : Nat} {q : StP} {n : Int} {hist : List StP} {y : D} {t : Tg} (ha : ClubAt C c h S q n hist) (hg : GoodC q.1 q.2 n) (hn : ∀ k, y ≠ .ref k) (ht : tgD (vw S y) = some t) (hm : t ∈ tsCl C C2) (hi : gIsi (tabCl C C2) S y = some (.bl false)) :
    gOwnEq C (tsCl C C2) (gpCl C C2) S (.ref c) y = some (.bl false) ∧ gOwnNe C (tsCl C C2) (gpCl C C2) S (.ref c) y = some (.bl true) := by
  have hno : clOf C S y = none := by
    cases z : clOf C S y with
    | none => rfl
    | some a => obtain ⟨k, _, _, e, _⟩ := clOf_inv z; exact absurd e (hn k)
  have e : gOwnEq C (tsCl C C2) (gpCl C C2) S (.ref c) y = some (.bl false) := by
    rw [own_club ha ht hm]
    unfold gpCl
    rw [clOf_of ha hg, hno]
    exact if_pos hi
  refine ⟨e, ?_⟩
  unfold gOwnNe
  rw [e]
  rfl
section
variable {P : Program} {w : World} {K : PySem.W.Frag} {mg : Str → Option Value} {base : Heap}
theorem ok_keq (T : T61 K mg) : FnL P w K mg base 4 T.f_Club___eq__ T.fd_Club___eq__ ["self", "other"] (F2 (gpCl T.C_Club T.C_Circle)) := by
  obtain ⟨gc, Fn_Club_circle, Sc⟩ := ok_circ (P := P) (w := w) (base := base) T
  have Fn_Circle___eq__ := ok_ceq (P := P) (w := w) (base := base) T
  refine FnL.le (Fun.okL T.F_Club___eq__ sc_Club___eq__ fun cdv A outer s H E hr =>
(pssl_one (psl_ret (pel_and (pel_isi rfl T.n_isinstance (pel_var (i := 1)) (pe_glob rfl T.mg_Club (v := .ref T.C_Club) rfl) (.own _) T.isi_Club) (pel_one (pel_cmp (opl_ownEq ⟨⟨1, _, _, _, Fn_Circle___eq__, hr.mono (by decide), T.b_Circle___eq__, rfl, T.a_Circle___eq__, T.i_Circle___eq__⟩, T.fst_Circle⟩) (pel_meth0 T.cl_Club T.mt_Club_circle Fn_Club_circle (hr.mono (by decide)) T.b_Club_circle dfl_nil (pel_var (i := 0))) (pel_meth0 T.cl_Club T.mt_Club_circle Fn_Club_circle (hr.mono (by decide)) T.b_Club_circle dfl_nil (pel_var (i := 1))))))))) fun ds S hl => ?_
  match ds, hl with
  | [x, y], _ =>
    show RLe S (lift1 (gpCl T.C_Club T.C_Circle S x y) S) _
    unfold gpCl
    cases hx : clOf T.C_Club S x with
    | none => exact .bad _
    | some a =>
      obtain ⟨c, h, hist, rfl, ha, hg⟩ := clOf_inv hx
      cases hy : clOf T.C_Club S y with
      | some b =>
        obtain ⟨c', h', hist', rfl, hb, hg'⟩ := clOf_inv hy
        have hown : gOwnEq T.C_Circle (tsCi T.C_Circle) (gpCi T.C_Circle) S (crD T.C_Circle a.1 a.2.1 a.2.2) (crD T.C_Circle b.1 b.2.1 b.2.2) = some (.bl (decide (a = b))) := by
          unfold gOwnEq
          show (if T.C_Circle = T.C_Circle then (if Tg.obj T.C_Circle ∈ tsCi T.C_Circle then gpCi T.C_Circle S _ _ else none) else none) = _
          rw [if_pos rfl, if_pos (by simp [tsCi]), gpCi_of hg hg']
        exact rle_eq (body_rt (ret_ok (andv_tt (d := .bl true) (isi_ok rfl (isi_club hb)) rfl (bin_ok (meth_ok (d := .ref c) (ds := []) rfl (recv_at2 ha.at_ rfl) rfl rfl (Sc S c h _ _ hist ha hg)) (meth_ok (d := .ref c') (ds := []) rfl (recv_at2 hb.at_ rfl) rfl rfl (Sc S c' h' _ _ hist' hb hg')) hown))))
      | none =>
        dsimp only [Option.bind]
        split
        · rename_i hi
          exact rle_eq (body_rt (ret_ok (andv_ff (d := .bl false) (isi_ok rfl hi) rfl)))
        · exact .bad _
theorem ok_klen (T : T61 K mg) : FnL P w K mg base 1 T.f_Club___len__ T.fd_Club___len__ ["self"] (F1 (gpLen T.C_Club)) := by
  refine FnL.le (Fun.okL T.F_Club___len__ sc_Club___len__ fun cdv A outer s H E hr =>
(pssl_one (psl_ret (pel_callB (cl_len) rfl T.n_len (by decide +kernel) (pal_cons (pel_fld T.cl_Club T.na_Club_kept_years (pel_var (i := 0))) pal_nil))))) fun ds S hl => ?_
  match ds, hl with
  | [x], _ =>
    show RLe S (lift1 (gpLen T.C_Club S x) S) _
    unfold gpLen
    cases hx : clOf T.C_Club S x with
    | none => exact .bad _
    | some a =>
      obtain ⟨c, h, hist, rfl, ha, hg⟩ := clOf_inv hx
      exact rle_eq (body_rt (ret_ok (callb_ok (acons_ok (fld_at rfl ha.at_ rfl) rfl) rfl)))
theorem ok_kstr (T : T61 K mg) : FnL P w K mg base 6 T.f_Club___str__ T.fd_Club___str__ ["self"] (F1 (gpStr T.C_Club)) := by
  obtain ⟨gc, Fn_Club_circle, Sc⟩ := ok_circ (P := P) (w := w) (base := base) T
  have Fn_Circle___str__ := ok_cstr (P := P) (w := w) (base := base) T
  refine FnL.le (Fun.okL T.F_Club___str__ sc_Club___str__ fun cdv A outer s H E hr =>
(pssl_one (psl_ret (pel_callTy (cl_strO ⟨⟨2, _, _, _, Fn_Circle___str__, hr.mono (by decide), T.b_Circle___str__, rfl, T.a_Circle___str__, T.i_Circle___str__⟩⟩) rfl T.n_str (by decide +kernel) (pal_cons (pel_meth0 T.cl_Club T.mt_Club_circle Fn_Club_circle (hr.mono (by decide)) T.b_Club_circle dfl_nil (pel_var (i := 0))) pal_nil))))) fun ds S hl => ?_
  match ds, hl with
  | [x], _ =>
    show RLe S (lift1 (gpStr T.C_Club S x) S) _
    unfold gpStr
    cases hx : clOf T.C_Club S x with
    | none => exact .bad _
    | some a =>
      obtain ⟨c, h, hist, rfl, ha, hg⟩ := clOf_inv hx
      have hs : gStrO T.C_Circle (gcS T.C_Circle) S [crD T.C_Circle a.1 a.2.1 a.2.2] = some (.str (Txt.join "\n" (rowsC a.1 a.2.1 a.2.2))) := by
        show ((if T.C_Circle = T.C_Circle then gcS T.C_Circle S (crD T.C_Circle a.1 a.2.1 a.2.2) else none)).bind strD = _
        rw [if_pos rfl]
        unfold gcS
        rw [ciOf_of hg]
        rfl
      exact rle_eq (body_rt (ret_ok (callb_ok (acons_ok (meth_ok (d := .ref c) (ds := []) rfl (recv_at2 ha.at_ rfl) rfl rfl (Sc S c h _ _ hist ha hg)) rfl) hs)))
def SRef (C : Addr) (g : F) : Prop := ∀ (S : Sto) (c h : Nat) (q : StP) (n : Int) (hist : List StP), ClubAt C c h S q n hist → HistOk hist →
  g [.ref c, .int 0] S = .ok (.bl true) S ∧ (hist = [] → g [.ref c, .int 1] S = .ok (.bl true) S) ∧ ∀ hs q', hist = hs ++ [q'] → ∃ S', g [.ref c, .int 1] S = .ok (.bl false) S' ∧ ClubAt C c h S' q' n hs ∧ Fr2 c h S S'
theorem ok_refused (T : T61 K mg) : ∃ g, FnL P w K mg base 2 T.f__law_refused T.fd__law_refused ["_law_club", "_law_way"] g ∧ SRef T.C_Club g := by
  obtain ⟨gb, Fn_Club_back, Sb⟩ := ok_back (P := P) (w := w) (base := base) T
  obtain ⟨gl, Fn_Club_last, Sl⟩ := ok_last (P := P) (w := w) (base := base) T
  refine ⟨_, Fun.okL T.F__law_refused sc__law_refused fun cdv A outer s H E hr =>
(pssl_cons (psl_set (i := 2) sc__law_refused.nd pel_bl)
  (pssl_cons (psl_tryM rfl rfl rfl (fun _ _ _ => (pssl_one (psl_if (ptl_cmp (opl_eq hr.units) (pel_var (i := 1)) pel_int) (pssl_one (psl_expr (pel_meth0 T.cl_Club T.mt_Club_last Fn_Club_last (hr.mono (by decide)) T.b_Club_last dfl_nil (pel_var (i := 0))))) (pssl_one (psl_expr (pel_meth0 T.cl_Club T.mt_Club_back Fn_Club_back (hr.mono (by decide)) T.b_Club_back dfl_nil (pel_var (i := 0)))))))) (.cons ⟨rfl, by decide, .inl T.mg_NoYear⟩ (tab := fun C => PySem.W.exmOne K (.ref C) (.ref T.C_NoYear)) (fun _ _ h => h) (fun _ _ => (pssl_one (psl_set (i := 2) sc__law_refused.nd (pel_cmp (opl_eq hr.units) (pel_var (i := 1)) pel_int)))) (.cons ⟨rfl, by decide, .inl T.mg_NoBack⟩ (tab := fun C => PySem.W.exmOne K (.ref C) (.ref T.C_NoBack)) (fun _ _ h => h) (fun _ _ => (pssl_one (psl_set (i := 2) sc__law_refused.nd (pel_cmp (opl_eq hr.units) (pel_var (i := 1)) pel_int)))) .nil)))
  (pssl_one (psl_ret (pel_var (i := 2)))))), ?_⟩
  intro S c h q n hist ha ho
  have ii : ∀ (S : Sto) (i j : Int), gEq S (.int i) (.int j) = some (.bl (decide (i = j))) := fun S i j => eq_ii
  refine ⟨?_, fun hz => ?_, fun hs q' hz => ?_⟩
  · exact body_rt (seq_nx (set_ok rfl) (seq_nx (trym_ex (if_tt (tru_b (bin_ok rfl rfl (ii _ _ _)) rfl) (expr_ex (meth_ok (d := .ref c) (ds := []) rfl (recv_at2 ha.at_ rfl) rfl rfl (Sl S c h q n hist ha)))) (gom_tt T.x_yy (set_ok (bin_ok rfl rfl (ii _ _ _))))) (ret_ok rfl)))
  · exact body_rt (seq_nx (set_ok rfl) (seq_nx (trym_ex (if_ff (tru_b (bin_ok rfl rfl (ii _ _ _)) rfl) (expr_ex (meth_ok (d := .ref c) (ds := []) rfl (recv_at2 ha.at_ rfl) rfl rfl ((Sb S c h q n hist ha ho).1 hz)))) (gom_ff T.x_by (gom_tt T.x_bb (set_ok (bin_ok rfl rfl (ii _ _ _)))))) (ret_ok rfl)))
  · obtain ⟨S', e1, e2, e3⟩ := (Sb S c h q n hist ha ho).2 hs q' hz
    exact ⟨S', body_rt (seq_nx (set_ok rfl) (seq_nx (trym_nx (if_ff (tru_b (bin_ok rfl rfl (ii _ _ _)) rfl) (expr_ok (meth_ok (d := .ref c) (ds := []) rfl (recv_at2 ha.at_ rfl) rfl rfl e1)))) (ret_ok rfl))), e2, e3⟩
end
end K61

namespace K61
open PySem PySem.Spec PyProof.Rows L2 MP TL
open K59 (Pr nm givs taks slt isL lets nm_ok sle sorted_strs cnt_nodup slt_trans slt_irrefl)
/-! ### whether a club is as kept -/
def gRepX : GC := fun S ds => (gReprD S ds).or (gReprK1 S ds)
theorem toPEs_ps : ∀ ps : List Pr, toPEs (psD ps) = some (ps.map encP)
  | [] => rfl
  | p :: ps => by
    have e := toPEs_ps ps
    show (toPE (pD p)).bind _ = _
    simp only [psD] at e
    simp [toPEs, pD, toPE, e, psD, encP]
theorem gd_lv {x : Str} (h : x = "" ∨ nm x = true) : (x.cps.toList.all fun c => decide (c < 16 ^ 8)) = true ∧ x.cps.size ≤ 12 := by
  have ho : PyData.strOk x = true := by
    rcases h with e | e
    · rw [e]; kernel_rfl
    · exact nm_ok e
  have hl : x.length ≤ 12 := by
    rcases h with e | e
    · rw [e]; decide
    · exact nm_len e
  unfold PyData.strOk at ho
  rw [← Array.all_toList, List.all_eq_true] at ho
  exact ⟨List.all_eq_true.mpr fun c hc => decide_eq_true (Nat.lt_trans (of_decide_eq_true (ho c hc)) (by decide)), hl⟩
theorem ps_facts : ∀ {ps : List Pr}, (∀ p ∈ ps, gdP p) → PyData.showableAll (ps.map encP) = true ∧ PyData.leavesShortAll 31 (ps.map encP) = true ∧ PyData.weightAll (ps.map encP) ≤ 30 * ps.length ∧ PyData.depthAll (ps.map encP) ≤ 5
  | [], _ => ⟨rfl, rfl, Nat.le_refl _, by simp [PyData.depthAll]⟩
  | p :: ps, h => by
    obtain ⟨h1, h2, h3, h4⟩ := ps_facts (ps := ps) fun q hq => h q (by simp [hq])
    have hp := h p (by simp)
    have a := gd_lv (.inr hp.1)
    have b := gd_lv hp.2
    refine ⟨?_, ?_, ?_, ?_⟩
    · simp only [List.map_cons, PyData.showableAll, encP, PyData.showable, Bool.and_true, h1]
    · simp only [List.map_cons, PyData.leavesShortAll, encP, PyData.leavesShort, Bool.and_true, h2, a.1, b.1]
    · simp only [List.map_cons, PyData.weightAll, encP, PyData.weight, List.length_cons]
      omega
    · simp only [List.map_cons, PyData.depthAll, encP, PyData.depth]
      omega
theorem str_len30 {i : Int} (h0 : 0 ≤ i) : (Str.ofString (toString i)).length ≤ 30 ↔ i < 10 ^ 30 := by
  obtain ⟨n, rfl⟩ := Int.eq_ofNat_of_zero_le h0
  have e : (Str.ofString (toString (n : Int))).length = (Nat.toDigits 10 n).length := by
    rw [len_tl, tl_ofString, List.length_map]
    have e2 : toString (n : Int) = Nat.repr n := rfl
    rw [e2, Nat.repr_eq_ofList_toDigits]
    simp
  rw [e, Nat.length_toDigits_le_iff (by decide) (by decide)]
  omega
theorem rep_ci {ms bs : List Pr} {n : Int} (hg : GoodC ms bs n) : ∃ z, ∀ S, gRepX S [.tup [.ftup (psD ms), .ftup (psD bs), .ftup [], .int n]] = some (.str z) := by
  obtain ⟨a1, a2, a3, a4⟩ := ps_facts hg.gm
  obtain ⟨b1, b2, b3, b4⟩ := ps_facts hg.gb
  have hlog : n.natAbs.log2 < 1920 := by
    have h2 : n.natAbs < 2 ^ 1920 := Nat.lt_of_lt_of_le (show n.natAbs < 10 ^ 30 by have := hg.n0; have := hg.n1; omega) (by decide)
    by_cases hz : n.natAbs = 0
    · rw [hz]; decide
    · exact (Nat.log2_lt hz).mpr h2
  have hi : PyData.leavesShort 31 (.int n) = true := decide_eq_true (by
    show (Str.ofString (toString n)).length ≤ 31
    have := (str_len30 hg.n0).mpr hg.n1
    omega)
  have hw : (PyData.int n).weight ≤ 200 := by
    simp only [PyData.weight]
    have h2 : n.natAbs < 2 ^ 100 := Nat.lt_of_lt_of_le (show n.natAbs < 10 ^ 30 by have := hg.n0; have := hg.n1; omega) (by decide)
    have h3 : n.natAbs.log2 < 100 := by
      by_cases hz : n.natAbs = 0
      · rw [hz]; decide
      · exact (Nat.log2_lt hz).mpr h2
    try split
    all_goals omega
  let p : PyData := .tuple [.tuple (ms.map encP), .tuple (bs.map encP), .tuple [], .int n]
  have e1 : toPE (.tup [.ftup (psD ms), .ftup (psD bs), .ftup [], .int n]) = some p := by simp [toPE, toPEs, toPEs_ps, p]
  have e2 : p.showable = true := by
    show PyData.showableAll _ = true
    simp only [PyData.showableAll, PyData.showable, a1, b1, Bool.and_true, Bool.true_and]
    exact decide_eq_true hlog
  have e3 : PyData.leavesShort 31 p = true := by
    show PyData.leavesShortAll 31 _ = true
    rw [PyData.leavesShortAll, PyData.leavesShortAll, PyData.leavesShortAll, PyData.leavesShortAll, hi]
    simp only [PyData.leavesShort, PyData.leavesShortAll, a2, b2, Bool.and_true]
  have e4 : p.weight ≤ 8000 := by
    show PyData.weightAll [.tuple (ms.map encP), .tuple (bs.map encP), .tuple [], .int n] ≤ _
    simp only [PyData.weightAll]
    have w1 : ∀ l : List PyData, (PyData.tuple l).weight = PyData.weightAll l := fun l => rfl
    rw [w1, w1, w1]
    have := hg.lm
    have := hg.lb
    have w0 : PyData.weightAll [] = 0 := rfl
    omega
  have e5 : p.depth ≤ 40 := by
    show PyData.depth (.tuple _) ≤ _
    simp only [PyData.depth, PyData.depthAll]
    omega
  refine ⟨p.shown, fun S => ?_⟩
  have : gReprD S [.tup [.ftup (psD ms), .ftup (psD bs), .ftup [], .int n]] = some (.str p.shown) := by
    unfold gReprD
    dsimp only
    rw [e1]
    exact if_pos ⟨e2, Nat.le_trans (PyData.shown_le 31 (by decide) p e3) (by rw [sizeLine_eq]; omega), e5⟩
  unfold gRepX
  rw [this]
  rfl
theorem tl_ext {a b : Str} (h : tl a = tl b) : a = b := by
  obtain ⟨⟨a⟩⟩ := a
  obtain ⟨⟨b⟩⟩ := b
  have : a = b := h
  rw [this]
section
variable {P : Program} {w : World} {K : PySem.W.Frag} {mg : Str → Option Value} {base : Heap}
def SText (g : F) : Prop := ∀ (S : Sto) (ms bs : List Pr) (n : Int), GoodC ms bs n → g [.ftup (psD ms), .ftup (psD bs), .ftup [], .int n] S = .ok (.str (Txt.join "\n" (rowsC ms bs n))) S
theorem ok_text (T : T61 K mg) : ∃ g, FnL P w K mg base 1 T.f__law_text T.fd__law_text ["_law_members", "_law_bars", "_law_eras", "_law_gap"] g ∧ SText g := by
  refine ⟨_, Fun.okL T.F__law_text sc__law_text fun cdv A outer s H E hr =>
(pssl_cons (psl_set (i := 4) sc__law_text.nd (pel_lst (pal_cons (pel_op opl_add2 pel_str (pel_callTy (cl_str) rfl T.n_str (by decide +kernel) (pal_cons (pel_var (i := 3)) pal_nil))) pal_nil)))
  (pssl_cons (psl_set (i := 4) sc__law_text.nd (pel_op opl_add2 (pel_var (i := 4)) (pel_lc (own := [("_law_name", 5), ("_law_house", 6)]) rfl sc__law_text.nd (pil_val (pel_var (i := 0))) (blkOk_by (N := N__law_text) (sc := defScope s__law_text) (by decide +kernel)) (fun _ _ _ _ _ => (pgl_tup (n := 2) rfl (pgsl_cons (pgl_name (i := 5) sc__law_text.nd) (pgsl_cons (pgl_name (i := 6) sc__law_text.nd) pgsl_nil)))) (fun _ _ _ _ _ => ptsl_nil) (fun _ _ _ _ _ => (pel_op opl_add2 (pel_op opl_add2 pel_str (pel_var (i := 5))) (pel_ifExp (ptl_cmp (opl_ne hr.units) (pel_var (i := 6)) pel_str) (pel_op opl_add2 pel_str (pel_var (i := 6))) pel_str))))))
  (pssl_cons (psl_set (i := 4) sc__law_text.nd (pel_op opl_add2 (pel_var (i := 4)) (pel_lc (own := [("_law_giver", 7), ("_law_taker", 8)]) rfl sc__law_text.nd (pil_val (pel_var (i := 1))) (blkOk_by (N := N__law_text) (sc := defScope s__law_text) (by decide +kernel)) (fun _ _ _ _ _ => (pgl_tup (n := 2) rfl (pgsl_cons (pgl_name (i := 7) sc__law_text.nd) (pgsl_cons (pgl_name (i := 8) sc__law_text.nd) pgsl_nil)))) (fun _ _ _ _ _ => ptsl_nil) (fun _ _ _ _ _ => (pel_op opl_add2 (pel_op opl_add2 (pel_op opl_add2 pel_str (pel_var (i := 7))) pel_str) (pel_var (i := 8)))))))
  (pssl_cons (psl_for (passes_of rfl) rfl (pil_val (pel_var (i := 2))) (pgl_name (i := 9) sc__law_text.nd) (pssl_one psl_bad))
  (pssl_one (psl_ret (pel_strjoin pel_str (pel_var (i := 4))))))))), ?_⟩
  intro S ms bs n hg
  obtain ⟨i1, i2⟩ := itext hg.n0 hg.n1
  have a0 := addS2 (S := S) (i := "circle ") (j := Str.ofString (toString n)) (a := 7) (b := 1921) (by decide) i2 (by decide)
  have hM : ∀ p ∈ ms, ∀ ρ : Ev, ρ[5]? = some (some (.str p.1)) → ρ[6]? = some (some (.str p.2)) → lBin gAdd2 (lBin gAdd2 (lC (.str "member ")) (lVar 5)) (lIf (tTru (lBin gNe (lVar 6) (lC (.str "")))) (lBin gAdd2 (lC (.str " ")) (lVar 6)) (lC (.str ""))) ρ S = .ok (.str (rowM p)) S := by
    intro p hp ρ h5 h6
    obtain ⟨l1, l2⟩ := gd_len (hg.gm p hp)
    have v5 : lVar 5 ρ S = .ok (.str p.1) S := by unfold lVar; rw [h5]
    have v6 : lVar 6 ρ S = .ok (.str p.2) S := by unfold lVar; rw [h6]
    have b1 := addS2 (S := S) (i := "member ") (j := p.1) (a := 7) (b := 12) (by decide) l1 (by decide)
    by_cases hh : p.2 = ""
    · have b2 := addS2 (S := S) (j := "") (b := 0) b1.2 (by decide) (by decide)
      have e : rowM p = "member " ++ p.1 ++ "" := by
        unfold rowM
        rw [if_pos hh]
        exact tl_ext (by rw [tl_append (x := "member " ++ p.1) (y := ""), show tl ("" : Str) = [] from rfl, List.append_nil])
      rw [e]
      exact bin_ok (bin_ok rfl v5 b1.1) (ife_ff (tru_b (bin_ok v6 rfl ne_ss) (by rw [decide_eq_true hh]; rfl)) rfl) b2.1
    · have b2 := addS2 (S := S) (i := " ") (j := p.2) (a := 1) (b := 12) (by decide) l2 (by decide)
      have b3 := addS2 (S := S) (j := " " ++ p.2) (b := 13) b1.2 b2.2 (by decide)
      have e : rowM p = "member " ++ p.1 ++ (" " ++ p.2) := by
        unfold rowM
        rw [if_neg hh]
        exact tl_ext (by simp only [tl_append, List.append_assoc])
      rw [e]
      exact bin_ok (bin_ok rfl v5 b1.1) (ife_tt (tru_b (bin_ok v6 rfl ne_ss) (by rw [decide_eq_false hh]; rfl)) (bin_ok rfl v6 b2.1)) b3.1
  have hms : ∀ ρ : Ev, ρ = [some (.ftup (psD ms)), some (.ftup (psD bs)), some (.ftup []), some (.int n), some (.lst [.str ("circle " ++ Str.ofString (toString n))]), none, none, none, none, none] → lComp (lIter (lVar 0)) [5, 6] (gtTup 2 (gtCons (gtName 5) (gtCons (gtName 6) gtNil))) tYesL (lBin gAdd2 (lBin gAdd2 (lC (.str "member ")) (lVar 5)) (lIf (tTru (lBin gNe (lVar 6) (lC (.str "")))) (lBin gAdd2 (lC (.str " ")) (lVar 6)) (lC (.str "")))) ρ S = .ok (.lst ((ms.map rowM).map D.str)) S := by
    intro ρ hρ
    subst hρ
    refine (comp_okL (iter_ok rfl rfl) (by have := hg.lm; rw [psD_len]; omega) (comp_map (enc := pD) (f := fun p => D.str (rowM p)) trivial ms fun p hp => ?_)).trans (by rw [List.map_map]; rfl)
    exact ⟨_, rfl, hM p hp _ rfl rfl⟩
  have hcat : ∀ xs ys : List Str, xs.length + ys.length ≤ 1000 → gAdd2 S (.lst (xs.map D.str)) (.lst (ys.map D.str)) = some (.lst ((xs ++ ys).map D.str)) := fun xs ys h => by
    have e : gAdd S (.lst (xs.map D.str)) (.lst (ys.map D.str)) = none := rfl
    unfold gAdd2
    rw [e]
    show (if (xs.map D.str).length + (ys.map D.str).length ≤ sizeLine then some (D.lst (xs.map D.str ++ ys.map D.str)) else none) = _
    rw [if_pos (by rw [List.length_map, List.length_map, sizeLine_eq]; omega), List.map_append]
  have hbs : ∀ r : List Str, lComp (lIter (lVar 1)) [7, 8] (gtTup 2 (gtCons (gtName 7) (gtCons (gtName 8) gtNil))) tYesL (lBin gAdd2 (lBin gAdd2 (lBin gAdd2 (lC (.str "bar ")) (lVar 7)) (lC (.str " "))) (lVar 8)) [some (.ftup (psD ms)), some (.ftup (psD bs)), some (.ftup []), some (.int n), some (.lst (r.map D.str)), none, none, none, none, none] S = .ok (.lst ((bs.map rowB).map D.str)) S := by
    intro r
    refine (comp_okL (iter_ok rfl rfl) (by have := hg.lb; rw [psD_len]; omega) (comp_map (enc := pD) (f := fun p => D.str (rowB p)) trivial bs fun p hp => ?_)).trans (by rw [List.map_map]; rfl)
    obtain ⟨l1, l2⟩ := gd_len (hg.gb p hp)
    have b1 := addS2 (S := S) (i := "bar ") (j := p.1) (a := 4) (b := 12) (by decide) l1 (by decide)
    have b2 := addS2 (S := S) (j := " ") (b := 1) b1.2 (by decide) (by decide)
    have b3 := addS2 (S := S) (j := p.2) (b := 12) b2.2 l2 (by decide)
    exact ⟨_, rfl, bin_ok (bin_ok (bin_ok rfl rfl b1.1) rfl b2.1) rfl b3.1⟩
  have hlm := hg.lm
  have hlb := hg.lb
  have hfin : (["circle " ++ Str.ofString (toString n)] ++ ms.map rowM) ++ bs.map rowB = rowsC ms bs n := by unfold rowsC; simp
  refine body_rt (seq_nx (set_ok (lst_ok (acons_ok (bin_ok rfl (callb_ok (acons_ok rfl rfl) (i1 S)) a0.1) rfl) (by simp))) (seq_nx (set_ok (bin_ok rfl (hms _ rfl) (hcat ["circle " ++ Str.ofString (toString n)] _ (by simp; omega)))) (seq_nx (set_ok (bin_ok rfl (hbs (["circle " ++ Str.ofString (toString n)] ++ ms.map rowM)) (hcat _ _ (by simp; omega)))) (seq_nx (for_ok (iter_ok rfl rfl) (for_end trivial)) (ret_ok (bms_ok (z := "\n") rfl (acons_ok rfl rfl) ?_))))))
  exact join_ok hg (by rw [← hfin]; rfl)
end
end K61

namespace K61
open PySem PySem.Spec PyProof.Rows L2 MP TL
open K59 (Pr nm givs taks slt isL lets nm_ok sle sorted_strs cnt_nodup slt_trans slt_irrefl)
/-- a state that the law keeps -/
def sD (q : StP) : D := .tup [.dct false (kv2 q.1), .lst (psD q.2)]
/-- the club's state -/
def cn (q : StP) : StP := (q.1.mergeSort leP, q.2.mergeSort leP)
theorem items_kv2 (ms : List Pr) : ((kv2 ms).map fun q : D × D => D.tup [q.1, q.2]) = psD ms := by
  unfold kv2 psD
  rw [List.map_map]
  rfl
theorem good_cn {q : StP} {n : Int} (h : GoodC q.1 q.2 n) : GoodC (cn q).1 (cn q).2 n := by
  have p1 := List.mergeSort_perm q.1 leP
  have p2 := List.mergeSort_perm q.2 leP
  exact ⟨by show (q.1.mergeSort leP).length ≤ 30; rw [p1.length_eq]; exact h.lm, (show (givs (q.1.mergeSort leP)).Nodup from (p1.map (fun p : Pr => p.1)).nodup_iff.mpr h.nd), by show (q.2.mergeSort leP).length ≤ 100; rw [p2.length_eq]; exact h.lb, p2.nodup_iff.mpr h.nb, fun p hp => h.gm p (p1.mem_iff.mp hp), fun p hp => h.gb p (p2.mem_iff.mp hp), h.n0, h.n1⟩
section
variable {P : Program} {w : World} {K : PySem.W.Frag} {mg : Str → Option Value} {base : Heap}
def SRight (C : Addr) (g : F) : Prop := ∀ (S : Sto) (c h : Nat) (q : StP) (n : Int) (hist : List StP), ClubAt C c h S (cn q) n hist → GoodC q.1 q.2 n → g [.ref c, sD q, .int n] S = .ok (.bl true) S
theorem ok_right (T : T61 K mg) : ∃ g, FnL P w K mg base 10 T.f__law_right T.fd__law_right ["_law_club", "_law_state", "_law_gap"] g ∧ SRight T.C_Club g := by
  obtain ⟨gc, Fn_Club_circle, Sc⟩ := ok_circ (P := P) (w := w) (base := base) T
  obtain ⟨gi, Fn_Circle___init__, le_Circle⟩ := ok_cinit (P := P) (w := w) (base := base) T
  obtain ⟨gx, Fn__law_text, Sx⟩ := ok_text (P := P) (w := w) (base := base) T
  have Fn_Circle___eq__ := ok_ceq (P := P) (w := w) (base := base) T
  have Fn_Club___len__ := ok_klen (P := P) (w := w) (base := base) T
  have Fn_Club___str__ := ok_kstr (P := P) (w := w) (base := base) T
  refine ⟨_, Fun.okL T.F__law_right sc__law_right fun cdv A outer s H E hr =>
(pssl_cons (psl_par (i := 3) (j := 4) rfl sc__law_right.nd (pal_cons (pel_callTy cl_ftuple rfl T.n_tuple (by decide +kernel) (pal_cons (pel_callB (cl_sorted hr.units) rfl T.n_sorted (by decide +kernel) (pal_cons (pel_itemsL rfl (pel_ix ixl_seq (pel_var (i := 1)) pel_int) rfl T.n_list (by decide +kernel) rfl rfl rfl (by intro ρ S C fs S' z; exact noexc_ix z)) pal_nil)) pal_nil)) (pal_cons (pel_callTy cl_ftuple rfl T.n_tuple (by decide +kernel) (pal_cons (pel_callB (cl_sorted hr.units) rfl T.n_sorted (by decide +kernel) (pal_cons (pel_ix ixl_seq (pel_var (i := 1)) pel_int) pal_nil)) pal_nil)) pal_nil)))
  (pssl_cons (psl_set (i := 5) sc__law_right.nd (pel_meth0 T.cl_Club T.mt_Club_circle Fn_Club_circle (hr.mono (by decide)) T.b_Club_circle dfl_nil (pel_var (i := 0))))
  (pssl_cons (psl_if (ptl_cmp (opl_ne hr.units) (pel_callB (CallL.or (cl_reprD hr.g hr.units) (cl_reprK1 hr.g hr.units)) rfl T.n_repr (by decide +kernel) (pal_cons (pel_tup (pal_cons (pel_fld T.cl_Circle T.na_Circle_members (pel_var (i := 5))) (pal_cons (pel_fld T.cl_Circle T.na_Circle_bars (pel_var (i := 5))) (pal_cons (pel_fld T.cl_Circle T.na_Circle_past (pel_var (i := 5))) (pal_cons (pel_fld T.cl_Circle T.na_Circle_gap (pel_var (i := 5))) pal_nil))))) pal_nil)) (pel_callB (CallL.or (cl_reprD hr.g hr.units) (cl_reprK1 hr.g hr.units)) rfl T.n_repr (by decide +kernel) (pal_cons (pel_tup (pal_cons (pel_var (i := 3)) (pal_cons (pel_var (i := 4)) (pal_cons pel_tup0 (pal_cons (pel_var (i := 2)) pal_nil))))) pal_nil))) (pssl_one (psl_ret pel_bl)) pssl_nil)
  (pssl_cons (psl_if (PWL.pt (pwl_or (ptl_cmp (opl_ownNe ⟨⟨1, _, _, _, Fn_Circle___eq__, hr.mono (by decide), T.b_Circle___eq__, rfl, T.a_Circle___eq__, T.i_Circle___eq__⟩, T.fst_Circle⟩ T.ne_Circle T.ok_Circle.hm) (pel_var (i := 5)) (pel_make (n := 4) T.mk_Circle Fn_Circle___init__ le_Circle (hr.mono (by decide)) rfl T.mg_Circle T.b4 dfl_nil (pal_cons (pel_var (i := 3)) (pal_cons (pel_var (i := 4)) (pal_cons pel_tup0 (pal_cons (pel_var (i := 2)) pal_nil)))))) (pwl_or1 (ptl_cmp (opl_ne hr.units) (pel_callB (cl_lenO ⟨⟨1, _, _, _, Fn_Club___len__, hr.mono (by decide), T.b_Club___len__, rfl, T.a_Club___len__, T.i_Club___len__⟩⟩) rfl T.n_len (by decide +kernel) (pal_cons (pel_var (i := 0)) pal_nil)) pel_int)))) (pssl_one (psl_ret pel_bl)) pssl_nil)
  (pssl_one (psl_ret (pel_cmp (opl_eq hr.units) (pel_callTy (cl_strO ⟨⟨6, _, _, _, Fn_Club___str__, hr.mono (by decide), T.b_Club___str__, rfl, T.a_Club___str__, T.i_Club___str__⟩⟩) rfl T.n_str (by decide +kernel) (pal_cons (pel_var (i := 0)) pal_nil)) (pel_call Fn__law_text (hr.mono (by decide)) rfl T.mg__law_text T.F__law_text.kp T.b__law_text dfl_nil (pal_cons (pel_var (i := 3)) (pal_cons (pel_var (i := 4)) (pal_cons pel_tup0 (pal_cons (pel_var (i := 2)) pal_nil)))))))))))), ?_⟩
  intro S c h q n hist ha hg
  have hg2 := good_cn hg
  have hlm := hg.lm
  have hlb := hg.lb
  obtain ⟨z, hz⟩ := rep_ci hg2
  have hit : lItemsL (lBin gIx (lVar 1) (lC (.int 0))) [some (.ref c), some (sD q), some (.int n), none, none, none] S = .ok (.lst (psD q.1)) S := by
    unfold lItemsL
    rw [bin_ok (d := .dct false (kv2 q.1)) rfl rfl rfl, bind_ok, ← items_kv2]
    rfl
  have h1 : lCallB gFTuple (aCons (lCallB gSorted (aCons (lItemsL (lBin gIx (lVar 1) (lC (.int 0)))) aNil)) aNil) [some (.ref c), some (sD q), some (.int n), none, none, none] S = .ok (.ftup (psD (cn q).1)) S := callb_ok (acons_ok (callb_ok (acons_ok hit rfl) (gsort_ok (by omega))) rfl) rfl
  have h2 : lCallB gFTuple (aCons (lCallB gSorted (aCons (lBin gIx (lVar 1) (lC (.int 1))) aNil)) aNil) [some (.ref c), some (sD q), some (.int n), none, none, none] S = .ok (.ftup (psD (cn q).2)) S := callb_ok (acons_ok (callb_ok (acons_ok (bin_ok (d := .lst (psD q.2)) rfl rfl rfl) rfl) (gsort_ok (by omega))) rfl) rfl
  have hc := Sc S c h (cn q) n hist ha hg2
  have hmk := crF_of (C := T.C_Circle) (S := S) hg2
  have hne : gOwnNe T.C_Circle (tsCi T.C_Circle) (gpCi T.C_Circle) S (crD T.C_Circle (cn q).1 (cn q).2 n) (crD T.C_Circle (cn q).1 (cn q).2 n) = some (.bl false) := by
    have : gOwnEq T.C_Circle (tsCi T.C_Circle) (gpCi T.C_Circle) S (crD T.C_Circle (cn q).1 (cn q).2 n) (crD T.C_Circle (cn q).1 (cn q).2 n) = some (.bl true) := by
      unfold gOwnEq
      show (if T.C_Circle = T.C_Circle then (if Tg.obj T.C_Circle ∈ tsCi T.C_Circle then gpCi T.C_Circle S _ _ else none) else none) = _
      rw [if_pos rfl, if_pos (by simp [tsCi]), gpCi_of hg2 hg2, decide_eq_true rfl]
    unfold gOwnNe
    rw [this]
    rfl
  have own1 : ∀ gp : Sto → D → Option D, gOwn1 T.C_Club gp S (.ref c) = gp S (.ref c) := fun gp => by
    unfold gOwn1
    rw [vref ha.at_]
    show (if T.C_Club = T.C_Club then gp S (.ref c) else none) = _
    rw [if_pos rfl]
  have hlen : gLenO T.C_Club (gpLen T.C_Club) S [.ref c] = some (.int 0) := by
    unfold gLenO
    dsimp only
    rw [own1]
    unfold gpLen
    rw [clOf_of ha hg2]
    rfl
  have hstr : gStrO T.C_Club (gpStr T.C_Club) S [.ref c] = some (.str (Txt.join "\n" (rowsC (cn q).1 (cn q).2 n))) := by
    unfold gStrO
    dsimp only
    rw [own1]
    unfold gpStr
    rw [clOf_of ha hg2]
    rfl
  have hrep : ∀ S', gRepX S' [.tup [.ftup (psD (cn q).1), .ftup (psD (cn q).2), .ftup [], .int n]] = some (.str z) := hz
  have nes : ∀ x : Str, gNe S (.str x) (.str x) = some (.bl false) := fun x => by rw [ne_ss, decide_eq_true rfl]; rfl
  exact body_rt (seq_nx (par_ok (acons_ok h1 (acons_ok h2 rfl))) (seq_nx (set_ok (meth_ok (d := .ref c) (ds := []) rfl (recv_at2 ha.at_ rfl) rfl rfl hc))
    (seq_nx (if_ff (tru_b (bin_ok (callb_ok (acons_ok (tup_ok (acons_ok (fld_ci rfl rfl) (acons_ok (fld_ci rfl rfl) (acons_ok (fld_ci rfl rfl) (acons_ok (fld_ci rfl rfl) rfl)))) (by simp)) rfl) (hrep _)) (callb_ok (acons_ok (tup_ok (acons_ok rfl (acons_ok rfl (acons_ok rfl (acons_ok rfl rfl)))) (by simp)) rfl) (hrep _)) (nes _)) rfl) rfl)
    (seq_nx (if_ff (or_ff (tru_b (bin_ok rfl (call_ok (acons_ok rfl (acons_ok rfl (acons_ok rfl (acons_ok rfl rfl)))) rfl hmk) hne) rfl) (tru_b (bin_ok (callb_ok (acons_ok rfl rfl) hlen) rfl ne_ii) rfl)) rfl)
    (ret_ok (bin_ok (callb_ok (acons_ok rfl rfl) hstr) (call_ok (acons_ok rfl (acons_ok rfl (acons_ok rfl (acons_ok rfl rfl)))) rfl (Sx S _ _ n hg2)) (by rw [eq_ss, decide_eq_true rfl])))))))
end
end K61

/-! what a def made and nobody reaches is let go, in tuples of tuples, too -/
namespace MP
open PySem PySem.Spec PyProof.Rows L2
def fz1 (S : Sto) (n : Nat) (d : D) : D := match d with
  | .tup xs => .tup (xs.map (MP.fz0 S n))
  | d => MP.fz0 S n d
def fz2 (S : Sto) (n : Nat) (d : D) : D := match d with
  | .tup xs => .tup (xs.map (fz1 S n))
  | d => MP.fz0 S n d
section
variable {K : PySem.W.Frag} {m l : List Addr} {H H' : Hp} {S S' : Sto}
theorem VRs.mapd {φ : D → D} (hφ : ∀ {v : V} {d : D}, VR K (m ++ l) H v d → MP.below m.length (φ d) = true → VR K m H v (φ d)) : ∀ {vs : List V} {ds : List D}, VRs K (m ++ l) H vs ds → belows m.length (ds.map φ) = true → VRs K m H vs (ds.map φ)
  | _, _, .nil, _ => .nil
  | _, _, .cons h r, b => by
    simp only [List.map_cons, MP.belows, Bool.and_eq_true] at b
    exact .cons (hφ h b.1) (VRs.mapd hφ r b.2)
theorem VR.fz1_down {v : V} {d : D} (x : SR K (m ++ l) H S) (r : VR K (m ++ l) H v d) (b : MP.below m.length (fz1 S m.length d) = true) : VR K m H v (fz1 S m.length d) := by
  cases r with
  | tup h r => exact .tup h (VRs.mapd (fun w c => VR.fz0_down x w c) r b)
  | non => exact VR.fz0_down x .non b
  | bl c => exact VR.fz0_down x (.bl c) b
  | int c => exact VR.fz0_down x (.int c) b
  | str c => exact VR.fz0_down x (.str c) b
  | ftup hd h r => exact VR.fz0_down x (.ftup hd h r) b
  | lst n h r => exact VR.fz0_down x (.lst n h r) b
  | lstK hk h1 h2 h3 h4 h5 r => exact VR.fz0_down x (.lstK hk h1 h2 h3 h4 h5 r) b
  | dct n h r => exact VR.fz0_down x (.dct n h r) b
  | dctT n h r => exact VR.fz0_down x (.dctT n h r) b
  | obj n h r => exact VR.fz0_down x (.obj n h r) b
  | exn0 n h => exact VR.fz0_down x (.exn0 n h) b
  | exnD n nd h hd r => exact VR.fz0_down x (.exnD n nd h hd r) b
  | ref h => exact VR.fz0_down x (.ref h) b
theorem VR.fz2_down {v : V} {d : D} (x : SR K (m ++ l) H S) (r : VR K (m ++ l) H v d) (b : MP.below m.length (fz2 S m.length d) = true) : VR K m H v (fz2 S m.length d) := by
  cases r with
  | tup h r => exact .tup h (VRs.mapd (fun w c => VR.fz1_down x w c) r b)
  | non => exact VR.fz0_down x .non b
  | bl c => exact VR.fz0_down x (.bl c) b
  | int c => exact VR.fz0_down x (.int c) b
  | str c => exact VR.fz0_down x (.str c) b
  | ftup hd h r => exact VR.fz0_down x (.ftup hd h r) b
  | lst n h r => exact VR.fz0_down x (.lst n h r) b
  | lstK hk h1 h2 h3 h4 h5 r => exact VR.fz0_down x (.lstK hk h1 h2 h3 h4 h5 r) b
  | dct n h r => exact VR.fz0_down x (.dct n h r) b
  | dctT n h r => exact VR.fz0_down x (.dctT n h r) b
  | obj n h r => exact VR.fz0_down x (.obj n h r) b
  | exn0 n h => exact VR.fz0_down x (.exn0 n h) b
  | exnD n nd h hd r => exact VR.fz0_down x (.exnD n nd h hd r) b
  | ref h => exact VR.fz0_down x (.ref h) b
theorem qv_gcw2 {d : D} {v : V} (x : SR K m H S) (q : QV K m H S' d v H') (h : Okd S S') (b : below S.length (fz2 S' S.length d) = true) : QV K m H (S'.take S.length) (fz2 S' S.length d) v H' := by
  obtain ⟨m', e, x', w⟩ := q
  obtain ⟨y1, y2⟩ := sr_gcw x e x' h
  obtain ⟨l, el⟩ := e.pre
  subst el
  rw [← x.len] at b y1 ⊢
  exact ⟨m, y2, y1, w.fz2_down x' b⟩
end
open Classical in
noncomputable def gcF2 (g : F) : F := fun ds S => match g ds S with
  | .ok d S' => if below S.length (fz2 S' S.length d) = true ∧ Okd S S' then .ok (fz2 S' S.length d) (S'.take S.length) else .ok d S'
  | r => r
theorem FnL.gc2 {P : Program} {w : World} {K : PySem.W.Frag} {mg : Str → Option Value} {base : Heap} {k : Nat} {f : Addr} {fd : FuncData} {ps : List Str} {g : F} (h : FnL P w K mg base k f fd ps g) : FnL P w K mg base k f fd ps (gcF2 g) := by
  refine FnOk.imp h fun vs H Q E ⟨hl, m, S, ds, x, r, nb, q1, q2⟩ => ⟨hl, m, S, ds, x, r, ?_⟩
  unfold gcF2 at nb q1 q2
  cases hg : g ds S with
  | bad => rw [hg] at nb; exact absurd rfl nb
  | exc C fs S1 =>
    rw [hg] at q1 q2
    exact ⟨fun z => (nomatch z), fun d S' e => (nomatch e), fun C' fs' S' e => by cases e; exact q2 _ _ _ rfl⟩
  | ok d S1 =>
    rw [hg] at q1 q2
    dsimp only at q1 q2
    refine ⟨fun z => (nomatch z), fun d' S' e v H' qv => ?_, fun C' fs' S' e => (nomatch e)⟩
    cases e
    by_cases hc : below S.length (fz2 S1 S.length d) = true ∧ Okd S S1
    · rw [if_pos hc] at q1
      exact q1 _ _ rfl v H' (qv_gcw2 x qv hc.2 hc.1)
    · rw [if_neg hc] at q1
      exact q1 _ _ rfl v H' qv
theorem gcF2_ok {g : F} {ds : List D} {S S' S2 : Sto} {d d' : D} (h : g ds S = .ok d S') (e1 : fz2 S' S.length d = d') (e2 : S'.take S.length = S2) (b : below S.length d' = true) (h2 : Okd S S') : gcF2 g ds S = .ok d' S2 := by
  unfold gcF2
  rw [h]
  dsimp only
  rw [if_pos ⟨by rw [e1]; exact b, h2⟩, e1, e2]
end MP

namespace K61
open PySem PySem.Spec PyProof.Rows L2 MP TL
open K59 (Pr nm givs taks slt isL lets nm_ok sle sorted_strs cnt_nodup slt_trans slt_irrefl)
/-! ### six names -/
def ABC : Str := "abcdefghijklmnopqrstuvwxyz"
def BYS : List Nat := [1, 3, 5, 7, 9, 11, 15, 17, 19, 21, 23, 25]
def ENDS : List Str := ["", "z", "ay", "qqqqqqqqqqq"]
def nmA (a l : Nat) : Str := strRep "m" (a : Int) ++ ⟨#[97 + l]⟩ ++ strRep "m" ((11 : Int) - (a : Int))
def nmB (l : Nat) (e : Str) : Str := ⟨#[97 + l]⟩ ++ e
def lenOk (x : Str) : Bool := decide (x.length = 1 ∨ x.length = 2 ∨ x.length = 3 ∨ x.length = 12)
theorem factA : ∀ a < 12, ∀ l < 26, nm (nmA a l) = true ∧ lenOk (nmA a l) = true ∧ (tl (nmA a l))[a]? = some (97 + l) := by decide +kernel
theorem factB : ∀ l < 26, ∀ e ∈ ENDS, nm (nmB l e) = true ∧ lenOk (nmB l e) = true ∧ (tl (nmB l e))[0]? = some (97 + l) := by decide +kernel
theorem factL : ∀ l : Nat, l < 26 → atI ABC.cps.toList (l : Int) = some (97 + l) := by decide +kernel
theorem factD : ∀ f < 26, ∀ b ∈ BYS, ((List.range 6).map fun k => 97 + (f + b * k) % 26).Nodup := by decide +kernel
theorem factM : ∀ a : Nat, a < 12 → (strRep "m" (a : Int)).length ≤ 12 ∧ (strRep "m" ((11 : Int) - (a : Int))).length ≤ 12 := by decide +kernel
theorem abc_ix {S : Sto} {l : Nat} (h : l < 26) : gIx S (.str ABC) (.int (l : Int)) = some (.str ⟨#[97 + l]⟩) := by
  show (if ABC.length ≤ sizeLine then (atI ABC.cps.toList (l : Int)).map fun c => D.str ⟨#[c]⟩ else none) = _
  rw [if_pos (by rw [sizeLine_eq]; decide), factL l h]
  rfl
theorem mul_m {S : Sto} {a : Int} (h0 : 0 ≤ a) (h1 : a ≤ 11) (hl : (strRep "m" a).length ≤ 12) : gMulS S (.str "m") (.int a) = some (.str (strRep "m" a)) := by
  show (if 0 ≤ a ∧ a ≤ 1000 ∧ ("m" : Str).length ≤ 1000 ∧ (strRep "m" a).length ≤ sizeLine then some (D.str (strRep "m" a)) else none) = _
  rw [if_pos ⟨h0, by omega, by decide, by rw [sizeLine_eq]; omega⟩]
/-- the k-th name -/
def NameOf (pos f b k : Nat) (y : Str) : Prop := nm y = true ∧ lenOk y = true ∧ (tl y)[pos]? = some (97 + (f + b * k) % 26)
def AllN (pos f b : Nat) : List Nat → List Str → Prop
  | [], [] => True
  | k :: ks, y :: ys => NameOf pos f b k y ∧ AllN pos f b ks ys
  | _, _ => False
theorem AllN.codes {pos f b : Nat} : ∀ {ks : List Nat} {ys : List Str}, AllN pos f b ks ys → ys.map (fun y => (tl y)[pos]?) = ks.map (fun k => some (97 + (f + b * k) % 26)) ∧ ∀ y ∈ ys, nm y = true ∧ lenOk y = true
  | [], [], _ => ⟨rfl, by simp⟩
  | k :: ks, y :: ys, h => by
    obtain ⟨h1, h2⟩ := AllN.codes h.2
    refine ⟨by rw [List.map_cons, List.map_cons, h1, h.1.2.2], fun z hz => ?_⟩
    rcases List.mem_cons.mp hz with rfl | hz
    · exact ⟨h.1.1, h.1.2.1⟩
    · exact h2 z hz
  | [], _ :: _, h => h.elim
  | _ :: _, [], h => h.elim
structure NamesOk (ns : List Str) : Prop where
  len : ns.length = 6
  nd : ns.Nodup
  nm : ∀ x ∈ ns, nm x = true ∧ lenOk x = true
theorem AllN.ok {pos f b : Nat} {ys : List Str} (h : AllN pos f b (List.range 6) ys) (hf : f < 26) (hb : b ∈ BYS) : NamesOk ys := by
  obtain ⟨h1, h2⟩ := h.codes
  refine ⟨by have := congrArg List.length h1; simpa using this, ?_, h2⟩
  have hn : (ys.map (fun y => (tl y)[pos]?)).Nodup := by
    rw [h1]
    have := factD f hf b hb
    unfold List.Nodup at this ⊢
    rw [List.pairwise_map] at this ⊢
    exact this.imp fun {a c} q z => q (Option.some.inj z)
  unfold List.Nodup at hn ⊢
  rw [List.pairwise_map] at hn
  exact hn.imp fun {a c} q z => q (by rw [z])
theorem range_okN {t : LA} {ρ : Ev} {S S1 : Sto} {j : Int} (h : t ρ S = .ok [.int j] S1) (h0 : 0 ≤ j) (h1 : j < 1000000) : lRange1 t ρ S = .ok ⟨(List.range j.toNat).map fun (i : Nat) => .int (i : Int), fun _ => True⟩ S1 := by
  unfold lRange1
  rw [h, bind_ok]
  show (if -(2 ^ 62) ≤ j ∧ j < 2 ^ 62 then _ else _) = _
  rw [if_pos ⟨by omega, by omega⟩]
section
variable {P : Program} {w : World} {K : PySem.W.Frag} {mg : Str → Option Value} {base : Heap}
def SNames (g : F) : Prop := ∀ (n : Int) (S : Sto) (j : Nat), PotAt j n S → n < 10 ^ 28 → ∃ ns S', g [.ref j, .int 6] S = .ok (.lst (ns.map D.str)) S' ∧ NamesOk ns ∧ PotAt j (n + 40) S' ∧ Keep j S S'
theorem ok_names (T : T61 K mg) : ∃ g, FnL P w K mg base 3 T.f__law_names T.fd__law_names ["_law_pot_here", "_law_most"] g ∧ SNames g := by
  obtain ⟨gp, Fn__law_pick, Sk⟩ := ok_pick (P := P) (w := w) (base := base) T
  obtain ⟨go, Fn__law_of, So⟩ := ok_of (P := P) (w := w) (base := base) T
  refine ⟨gcF _, FnL.gc (Fun.okL T.F__law_names sc__law_names fun cdv A outer s H E hr =>
(pssl_cons (psl_par3 (i := 2) (j := 3) (l := 4) rfl sc__law_names.nd (pal_cons pel_str (pal_cons (pel_call Fn__law_pick (hr.mono (by decide)) rfl T.mg__law_pick T.F__law_pick.kp T.b__law_pick dfl_nil (pal_cons (pel_var (i := 0)) (pal_cons pel_int pal_nil))) (pal_cons (pel_call Fn__law_pick (hr.mono (by decide)) rfl T.mg__law_pick T.F__law_pick.kp T.b__law_pick dfl_nil (pal_cons (pel_var (i := 0)) (pal_cons pel_int pal_nil))) pal_nil))))
  (pssl_cons (psl_par3 (i := 5) (j := 6) (l := 7) rfl sc__law_names.nd (pal_cons (pel_call Fn__law_pick (hr.mono (by decide)) rfl T.mg__law_pick T.F__law_pick.kp T.b__law_pick dfl_nil (pal_cons (pel_var (i := 0)) (pal_cons pel_int pal_nil))) (pal_cons (pel_call Fn__law_of (hr.mono (by decide)) rfl T.mg__law_of T.F__law_of.kp T.b__law_of dfl_nil (pal_cons (pel_var (i := 0)) (pal_cons (pel_lst (pal_cons pel_int (pal_cons pel_int (pal_cons pel_int (pal_cons pel_int (pal_cons pel_int (pal_cons pel_int (pal_cons pel_int (pal_cons pel_int (pal_cons pel_int (pal_cons pel_int (pal_cons pel_int (pal_cons pel_int pal_nil))))))))))))) pal_nil))) (pal_cons (pel_lstN pal_nil) pal_nil))))
  (pssl_cons (psl_for (passes_of rfl) rfl (pil_range1 rfl T.n_range (pal_cons (pel_var (i := 1)) pal_nil)) (pgl_name (i := 8) sc__law_names.nd) (pssl_cons (psl_par (i := 9) (j := 10) rfl sc__law_names.nd (pal_cons (pel_ix ixl_seq (pel_var (i := 2)) (pel_op opl_mod (pel_op opl_add2 (pel_var (i := 5)) (pel_op opl_mulX (pel_var (i := 6)) (pel_var (i := 8)))) pel_int)) (pal_cons (pel_call Fn__law_of (hr.mono (by decide)) rfl T.mg__law_of T.F__law_of.kp T.b__law_of dfl_nil (pal_cons (pel_var (i := 0)) (pal_cons (pel_lst (pal_cons pel_str (pal_cons pel_str (pal_cons pel_str (pal_cons pel_str pal_nil))))) pal_nil))) pal_nil)))
  (pssl_one (psl_expr (pel_append (pel_var (i := 7)) (pel_ifExp (ptl_cmp (opl_eq hr.units) (pel_var (i := 3)) pel_int) (pel_op opl_add2 (pel_op opl_add2 (pel_op opl_mulS pel_str (pel_var (i := 4))) (pel_var (i := 9))) (pel_op opl_mulS pel_str (pel_op opl_sub pel_int (pel_var (i := 4))))) (pel_op opl_add2 (pel_var (i := 9)) (pel_var (i := 10)))))))))
  (pssl_one (psl_ret (pel_var (i := 7)))))))), ?_⟩
  intro n S j hp hn
  obtain ⟨v1, S1, e1, a10, a11, p1, k1⟩ := Sk n S j 2 hp (by omega) (by decide) (by decide)
  obtain ⟨v2, S2, e2, a20, a21, p2, k2⟩ := Sk _ S1 j 12 p1 (by omega) (by decide) (by decide)
  obtain ⟨v3, S3, e3, a30, a31, p3, k3⟩ := Sk _ S2 j 26 p2 (by omega) (by decide) (by decide)
  obtain ⟨y4, S4, e4, ⟨b, hb, rfl⟩, p4, k4⟩ := So _ S3 j (.lst (BYS.map fun (b : Nat) => D.int (b : Int))) 12 (fun d => ∃ b ∈ BYS, d = .int ((b : Nat) : Int)) p3 (by omega) rfl (by decide) (by decide) fun S' v _ v0 v1 => by
    have hv : v.toNat < 12 := by omega
    have e : ((v.toNat : Nat) : Int) = v := by omega
    rw [← e]
    generalize v.toNat = m at hv
    match m, hv with
    | 0, _ => exact ⟨.int ((1 : Nat) : Int), rfl, 1, by decide, rfl⟩
    | 1, _ => exact ⟨.int ((3 : Nat) : Int), rfl, 3, by decide, rfl⟩
    | 2, _ => exact ⟨.int ((5 : Nat) : Int), rfl, 5, by decide, rfl⟩
    | 3, _ => exact ⟨.int ((7 : Nat) : Int), rfl, 7, by decide, rfl⟩
    | 4, _ => exact ⟨.int ((9 : Nat) : Int), rfl, 9, by decide, rfl⟩
    | 5, _ => exact ⟨.int ((11 : Nat) : Int), rfl, 11, by decide, rfl⟩
    | 6, _ => exact ⟨.int ((15 : Nat) : Int), rfl, 15, by decide, rfl⟩
    | 7, _ => exact ⟨.int ((17 : Nat) : Int), rfl, 17, by decide, rfl⟩
    | 8, _ => exact ⟨.int ((19 : Nat) : Int), rfl, 19, by decide, rfl⟩
    | 9, _ => exact ⟨.int ((21 : Nat) : Int), rfl, 21, by decide, rfl⟩
    | 10, _ => exact ⟨.int ((23 : Nat) : Int), rfl, 23, by decide, rfl⟩
    | 11, _ => exact ⟨.int ((25 : Nat) : Int), rfl, 25, by decide, rfl⟩
  obtain ⟨a, rfl⟩ := Int.eq_ofNat_of_zero_le a20
  obtain ⟨f, rfl⟩ := Int.eq_ofNat_of_zero_le a30
  have ha : a < 12 := by omega
  have hf : f < 26 := by omega
  obtain ⟨q, hq⟩ : ∃ q, q = S4.length := ⟨_, rfl⟩
  have hjq : j < S4.length := p4.lt
  have hSq : S.length ≤ q := by have := k1.1; have := k2.1; have := k3.1; have := k4.1; omega
  have hbb : b ≤ 25 := by
    have : ∀ b ∈ BYS, b ≤ 25 := by decide
    exact this b hb
  let ρ0 : Ev := [some (.ref j), some (.int 6), some (.str ABC), some (.int v1), some (.int (a : Int)), some (.int (f : Int)), some (.int (b : Int)), some (.ref q), none, none, none]
  have loop : ∀ (ks : List Nat) (xs : List Str) (nn : Int) (S : Sto), (∀ k ∈ ks, k < 6) → xs.length + ks.length ≤ 6 → PotAt j nn S → nn + (ks.length : Int) < 10 ^ 29 → S[q]? = some (.lst (xs.map D.str)) → S4.length + 1 ≤ S.length → 
      ∃ S' ys, forG ρ0 (fun _ => True) (gtName 8) (lSeq (lPar 9 10 (aCons (lBin gIx (lVar 2) (lBin gMod (lBin gAdd2 (lVar 5) (lBin gMulX (lVar 6) (lVar 8))) (lC (.int 26)))) (aCons (lCall 2 go [] (aCons (lVar 0) (aCons (lLst (aCons (lC (.str "")) (aCons (lC (.str "z")) (aCons (lC (.str "ay")) (aCons (lC (.str "qqqqqqqqqqq")) aNil))))) aNil))) aNil))) (lExpr (lBM "list" stApp (lVar 7) (aCons (lIf (tTru (lBin gEq (lVar 3) (lC (.int 1)))) (lBin gAdd2 (lBin gAdd2 (lBin gMulS (lC (.str "m")) (lVar 4)) (lVar 9)) (lBin gMulS (lC (.str "m")) (lBin gSub (lC (.int 11)) (lVar 4)))) (lBin gAdd2 (lVar 9) (lVar 10))) aNil)))) (ks.map fun (k : Nat) => D.int (k : Int)) ρ0 S = .ok (.nx ρ0) S' ∧ PotAt j (nn + (ks.length : Int)) S' ∧ S'[q]? = some (.lst ((xs ++ ys).map D.str)) ∧ AllN (if v1 = 1 then a else 0) f b ks ys ∧ S.length ≤ S'.length ∧ ∀ i, i ≠ j → i ≠ q → i < S.length → S'[i]? = S[i]? := by
    intro ks
    induction ks with
    | nil => intro xs nn S _ _ p _ h _; exact ⟨S, [], for_end trivial, by simpa using p, by simpa using h, trivial, Nat.le_refl _, fun _ _ _ _ => rfl⟩
    | cons k ks ih =>
      intro xs nn S hk hl p hnn h hSl
      have hk6 := hk k (by simp)
      have hl26 : (f + b * k) % 26 < 26 := Nat.mod_lt _ (by decide)
      obtain ⟨y5, S5, e5, ⟨en, hen, rfl⟩, p5, k5⟩ := So _ S j (.lst (ENDS.map D.str)) 4 (fun d => ∃ x ∈ ENDS, d = .str x) p (by simp only [List.length_cons] at hnn; omega) rfl (by decide) (by decide) fun S' v _ v0 v1 => by
        have hv : v.toNat < 4 := by omega
        have e : ((v.toNat : Nat) : Int) = v := by omega
        rw [← e]
        generalize v.toNat = m at hv
        match m, hv with
        | 0, _ => exact ⟨_, rfl, _, by decide, rfl⟩
        | 1, _ => exact ⟨_, rfl, _, by decide, rfl⟩
        | 2, _ => exact ⟨_, rfl, _, by decide, rfl⟩
        | 3, _ => exact ⟨_, rfl, _, by decide, rfl⟩
      have hj2 : q ≠ j := by omega
      have h5 : S5[q]? = some (.lst (xs.map D.str)) := k5.get h hj2
      have hmul : gMulX S (.int (b : Int)) (.int (k : Int)) = some (.int ((b : Int) * (k : Int))) := by
        unfold gMulX
        rw [mul_ii (by unfold Sm; omega) (by unfold Sm; omega)]
        rfl
      have hmod : gMod S (.int ((f : Int) + (b : Int) * (k : Int))) (.int 26) = some (.int (((f + b * k) % 26 : Nat) : Int)) := by
        rw [mod_ii (by decide)]
        congr 2
      obtain ⟨hn1, hn2⟩ := factM a ha
      obtain ⟨z, hz, hname⟩ : ∃ z, (∀ ρ : Ev, ρ[3]? = some (some (.int v1)) → ρ[4]? = some (some (.int (a : Int))) → ρ[9]? = some (some (.str ⟨#[97 + (f + b * k) % 26]⟩)) → ρ[10]? = some (some (.str en)) → lIf (tTru (lBin gEq (lVar 3) (lC (.int 1)))) (lBin gAdd2 (lBin gAdd2 (lBin gMulS (lC (.str "m")) (lVar 4)) (lVar 9)) (lBin gMulS (lC (.str "m")) (lBin gSub (lC (.int 11)) (lVar 4)))) (lBin gAdd2 (lVar 9) (lVar 10)) ρ S5 = .ok (.str z) S5) ∧ NameOf (if v1 = 1 then a else 0) f b k z := by
        have one : ∀ c : Nat, (⟨#[c]⟩ : Str).length ≤ 1 := fun c => Nat.le_refl 1
        by_cases hv : v1 = 1
        · refine ⟨nmA a ((f + b * k) % 26), fun ρ r3 r4 r9 r10 => ?_, ?_⟩
          · have w3 : lVar 3 ρ S5 = .ok (.int v1) S5 := by unfold lVar; rw [r3]
            have w4 : lVar 4 ρ S5 = .ok (.int (a : Int)) S5 := by unfold lVar; rw [r4]
            have w9 : lVar 9 ρ S5 = .ok (.str ⟨#[97 + (f + b * k) % 26]⟩) S5 := by unfold lVar; rw [r9]
            have c1 := addS2 (S := S5) (i := strRep "m" (a : Int)) (j := ⟨#[97 + (f + b * k) % 26]⟩) (a := 12) (b := 1) hn1 (one _) (by decide)
            have c2 := addS2 (S := S5) (j := strRep "m" ((11 : Int) - (a : Int))) (b := 12) c1.2 hn2 (by decide)
            exact ife_tt (tru_b (bin_ok w3 rfl eq_ii) (decide_eq_true hv)) (bin_ok (bin_ok (bin_ok rfl w4 (mul_m (by omega) (by omega) hn1)) w9 c1.1) (bin_ok rfl (bin_ok rfl w4 rfl) (mul_m (by omega) (by omega) hn2)) c2.1)
          · rw [if_pos hv]
            exact factA a ha _ hl26
        · refine ⟨nmB ((f + b * k) % 26) en, fun ρ r3 r4 r9 r10 => ?_, ?_⟩
          · have w3 : lVar 3 ρ S5 = .ok (.int v1) S5 := by unfold lVar; rw [r3]
            have w9 : lVar 9 ρ S5 = .ok (.str ⟨#[97 + (f + b * k) % 26]⟩) S5 := by unfold lVar; rw [r9]
            have w10 : lVar 10 ρ S5 = .ok (.str en) S5 := by unfold lVar; rw [r10]
            have hel : en.length ≤ 11 := by
              have : ∀ e ∈ ENDS, e.length ≤ 11 := by decide
              exact this en hen
            have c1 := addS2 (S := S5) (i := ⟨#[97 + (f + b * k) % 26]⟩) (j := en) (a := 1) (b := 11) (one _) hel (by decide)
            exact ife_ff (tru_b (bin_ok w3 rfl eq_ii) (decide_eq_false hv)) (bin_ok w9 w10 c1.1)
          · rw [if_neg hv]
            exact factB _ hl26 en hen
      have happ : stApp S5 (.ref q) [.str z] = some (.non, S5.set q (.lst ((xs ++ [z]).map D.str))) := by
        rw [app_ok h5 (by rw [List.length_map]; simp only [List.length_cons] at hl; omega), List.map_append]
        rfl
      have hq5 := get_set (o' := .lst ((xs ++ [z]).map D.str)) h5
      have p6 : PotAt j (nn + 1) (S5.set q (.lst ((xs ++ [z]).map D.str))) := p5.set hj2
      obtain ⟨S', ys, f1, f2, f3, f4, f5, f6⟩ := ih (xs ++ [z]) (nn + 1) (S5.set q (.lst ((xs ++ [z]).map D.str))) (fun i hi => hk i (by simp [hi])) (by simp only [List.length_append, List.length_cons, List.length_nil] at hl ⊢; omega) p6 (by simp only [List.length_cons] at hnn; push_cast at hnn; omega) hq5 (by rw [List.length_set]; have := k5.1; omega)
      refine ⟨S', z :: ys, for_go trivial rfl (seq_nx (par_ok (acons_ok (bin_ok rfl (bin_ok (bin_ok rfl (bin_ok rfl rfl hmul) add2_ii) rfl hmod) (abc_ix hl26)) (acons_ok (call_ok (acons_ok rfl (acons_ok (lst_ok (acons_ok rfl (acons_ok rfl (acons_ok rfl (acons_ok rfl rfl)))) (by simp)) rfl)) rfl e5) rfl))) (expr_ok (bm_ok rfl (isl_at h5) (acons_ok (hz _ rfl rfl rfl rfl) rfl) happ))) f1, ?_, ?_, ⟨hname, f4⟩, ?_, fun i h1 h2 h3 => ?_⟩
      · simp only [List.length_cons]
        push_cast
        rw [show nn + ((ks.length : Int) + 1) = nn + 1 + (ks.length : Int) by omega]
        exact f2
      · rw [f3]
        simp
      · have := k5.1
        rw [List.length_set] at f5
        omega
      · have := k5.1
        rw [f6 i h1 h2 (by rw [List.length_set]; omega), get_set_ne (Ne.symm h2)]
        exact k5.2 i h1 h3
  have hq0 : (S4 ++ [O.lst ([] : List D)])[q]? = some (.lst (([] : List Str).map D.str)) := by rw [hq]; simp
  obtain ⟨S', ys, f1, f2, f3, f4, f5, f6⟩ := loop (List.range 6) [] _ (S4 ++ [.lst []]) (fun k hk => List.mem_range.mp hk) (by simp) (p4.push) (by simp; omega) hq0 (by simp)
  rw [List.nil_append] at f3
  have kk := ((k1.trans k2).trans k3).trans k4
  have hlen : S4.length + 1 ≤ S'.length := by simpa using f5
  have hbase : lRange1 (aCons (lVar 1) aNil) [some (.ref j), some (.int 6), some (.str ABC), some (.int v1), some (.int (a : Int)), some (.int (f : Int)), some (.int (b : Int)), some (.ref q), none, none, none] (S4 ++ [.lst []]) = .ok ⟨(List.range 6).map fun (i : Nat) => D.int (i : Int), fun _ => True⟩ (S4 ++ [.lst []]) := range_okN (j := 6) rfl (by decide) (by decide)
  refine ⟨ys, S'.take S.length, gcF_ok (d := .ref q) (S' := S') (body_rt (seq_nx (par3_ok (acons_ok rfl (acons_ok (call_ok (acons_ok rfl (acons_ok rfl rfl)) rfl e1) (acons_ok (call_ok (acons_ok rfl (acons_ok rfl rfl)) rfl e2) rfl)))) (seq_nx (par3_ok (acons_ok (call_ok (acons_ok rfl (acons_ok rfl rfl)) rfl e3) (acons_ok (call_ok (acons_ok rfl (acons_ok (lst_ok (acons_ok rfl (acons_ok rfl (acons_ok rfl (acons_ok rfl (acons_ok rfl (acons_ok rfl (acons_ok rfl (acons_ok rfl (acons_ok rfl (acons_ok rfl (acons_ok rfl (acons_ok rfl rfl)))))))))))) (by simp)) rfl)) rfl e4) (acons_ok (by rw [hq]; exact lstN_ok rfl (by simp)) rfl)))) (seq_nx (for_ok hbase f1) (ret_ok rfl))))) ?_ rfl ?_ ?_, f4.ok hf hb, ?_, ?_⟩
  · unfold fz fz0
    dsimp only
    rw [if_neg (by omega), vref f3]
    rfl
  · exact below_strs ys
  · intro i o ho hi
    by_cases hij : i = j
    · subst hij
      obtain ⟨dg, sd, ct, hh, _⟩ := f2
      rw [hh] at ho
      cases ho
      exact .inr rfl
    · refine .inl ?_
      rw [← kk.2 i hij hi, ← ho, f6 i hij (by omega) (by have := kk.1; simp; omega), List.getElem?_append_left (by have := kk.1; omega)]
  · have hjS : j < S.length := hp.lt
    have : PotAt j (n + 40) S' := f2.mono (by simp; omega)
    obtain ⟨dg, sd, ct, hh, r⟩ := this
    exact ⟨dg, sd, ct, by rw [List.getElem?_take, if_pos hjS]; exact hh, r⟩
  · have := kk.1
    refine ⟨by rw [List.length_take]; omega, fun i hij hi => ?_⟩
    rw [List.getElem?_take, if_pos hi, f6 i hij (by omega) (by simp; omega), List.getElem?_append_left (by omega)]
    exact kk.2 i hij hi
end
end K61

namespace K61
open PySem PySem.Spec PyProof.Rows L2 MP TL
open K59 (Pr nm givs taks slt isL lets nm_ok sle sorted_strs cnt_nodup slt_trans slt_irrefl)
/-! ### plain: sorted pairs, states -/
theorem sort_perm {a b : List Pr} (h : a.Perm b) : a.mergeSort leP = b.mergeSort leP :=
  (PySem.W.Srt.the_of_perm leP leP_trans leP_total leP_anti ((List.mergeSort_perm b leP).trans h.symm) (List.pairwise_mergeSort (le := leP) leP_trans leP_total b)).symm
theorem sort_snoc {ms : List Pr} {p : Pr} : (ms.mergeSort leP ++ [p]).mergeSort leP = (ms ++ [p]).mergeSort leP := sort_perm ((List.mergeSort_perm ms leP).append_right [p])
theorem sort_filter (f : Pr → Bool) (ms : List Pr) : (ms.mergeSort leP).filter f = (ms.filter f).mergeSort leP :=
  PySem.W.Srt.the_of_perm leP leP_trans leP_total leP_anti ((List.mergeSort_perm ms leP).filter f) ((List.pairwise_mergeSort (le := leP) leP_trans leP_total ms).sublist List.filter_sublist)
theorem sort_self {ms : List Pr} (h : ms.Pairwise fun a b => leP a b = true) : ms.mergeSort leP = ms := List.mergeSort_of_pairwise h
theorem mem_sort {ms : List Pr} {p : Pr} : p ∈ ms.mergeSort leP ↔ p ∈ ms := (List.mergeSort_perm ms leP).mem_iff
theorem givs_sort {ms : List Pr} {x : Str} : x ∈ givs (ms.mergeSort leP) ↔ x ∈ givs ms := ((List.mergeSort_perm ms leP).map (fun p : Pr => p.1)).mem_iff
theorem pigeon {α : Type} [DecidableEq α] : ∀ (l m : List α), l.Nodup → (∀ x ∈ l, x ∈ m) → l.length ≤ m.length
  | [], _, _, _ => Nat.zero_le _
  | a :: l, m, hn, h => by
    have hn' := List.nodup_cons.mp hn
    have h1 := pigeon l (m.erase a) hn'.2 fun x hx => (List.mem_erase_of_ne (fun z => hn'.1 (by rw [← z]; exact hx))).mpr (h x (by simp [hx]))
    have h2 := List.length_erase_of_mem (h a (by simp))
    have h3 : 0 < m.length := List.length_pos_of_mem (h a (by simp))
    rw [List.length_cons]
    omega
def hsOk (ns : List Str) (y : Str) : Prop := y = "" ∨ y = "hut" ∨ y ∈ ns
structure GoodSt (ns : List Str) (q : StP) : Prop where
  nd : (givs q.1).Nodup
  ms : ∀ p ∈ q.1, p.1 ∈ ns ∧ hsOk ns p.2
  nb : q.2.Nodup
  bs : ∀ p ∈ q.2, p.1 ∈ ns ∧ p.2 ∈ ns
  lb : q.2.length ≤ 30
theorem good_st {ns : List Str} {q : StP} {n : Int} (hn : NamesOk ns) (h : GoodSt ns q) (h0 : 0 ≤ n) (h1 : n < 10 ^ 30) : GoodC q.1 q.2 n := by
  refine ⟨?_, h.nd, Nat.le_trans h.lb (by decide), h.nb, fun p hp => ?_, fun p hp => ?_, h0, h1⟩
  · have := pigeon (givs q.1) ns h.nd fun x hx => by
      obtain ⟨p, hp, rfl⟩ := List.mem_map.mp hx
      exact (h.ms p hp).1
    have l := hn.len
    unfold givs at this
    rw [List.length_map] at this
    omega
  · obtain ⟨a, b⟩ := h.ms p hp
    refine ⟨(hn.nm _ a).1, ?_⟩
    rcases b with e | e | e
    · exact .inl e
    · right; rw [e]; kernel_rfl
    · exact .inr (hn.nm _ e).1
  · obtain ⟨a, b⟩ := h.bs p hp
    exact ⟨(hn.nm _ a).1, .inr (hn.nm _ b).1⟩
theorem good_nil (ns : List Str) : GoodSt ns ([], []) := ⟨List.nodup_nil, (fun p hp => nomatch hp), List.nodup_nil, (fun p hp => nomatch hp), Nat.zero_le _⟩
theorem good_join {ns : List Str} {q : StP} (h : GoodSt ns q) {x y : Str} (hx : x ∈ ns) (hy : hsOk ns y) (hn : x ∉ givs q.1) : GoodSt ns (q.1 ++ [(x, y)], q.2) := by
  refine ⟨?_, fun p hp => ?_, h.nb, h.bs, h.lb⟩
  · unfold givs at hn ⊢
    rw [List.map_append]
    exact List.nodup_append.mpr ⟨h.nd, by simp, fun a ha b hb => by
      rw [List.map_singleton, List.mem_singleton] at hb
      subst hb
      exact fun z => hn (z ▸ ha)⟩
  · rcases List.mem_append.mp hp with hp | hp
    · exact h.ms p hp
    · rw [List.mem_singleton.mp hp]
      exact ⟨hx, hy⟩
theorem good_leave {ns : List Str} {q : StP} (h : GoodSt ns q) (x : Str) : GoodSt ns (wo x q.1, q.2) :=
  ⟨(List.filter_sublist.map _).nodup h.nd, fun p hp => h.ms p (List.mem_filter.mp hp).1, h.nb, h.bs, h.lb⟩
theorem good_bar {ns : List Str} {q : StP} (h : GoodSt ns q) {x y : Str} (hx : x ∈ ns) (hy : y ∈ ns) (hn : (x, y) ∉ q.2) (hl : q.2.length < 30) : GoodSt ns (q.1, q.2 ++ [(x, y)]) := by
  refine ⟨h.nd, h.ms, List.nodup_append.mpr ⟨h.nb, by simp, fun a ha b hb => ?_⟩, fun p hp => ?_, by simp; omega⟩
  · rw [List.mem_singleton.mp hb]
    exact fun z => hn (z ▸ ha)
  · rcases List.mem_append.mp hp with hp | hp
    · exact h.bs p hp
    · rw [List.mem_singleton.mp hp]
      exact ⟨hx, hy⟩
theorem good_unbar {ns : List Str} {q : StP} (h : GoodSt ns q) (p : Pr) : GoodSt ns (q.1, woP p q.2) :=
  ⟨h.nd, h.ms, List.filter_sublist.nodup h.nb, fun r hr => h.bs r (List.mem_filter.mp hr).1, Nat.le_trans (List.length_filter_le _ _) h.lb⟩
/-! dicts of members -/
theorem look_iff (ms : List Pr) (x : Str) : (lookD false (kv2 ms) [.inr x]).isSome = decide (x ∈ givs ms) := by
  induction ms with
  | nil => rfl
  | cons p ms ih =>
    show (if kOf false (.str p.1) = some [.inr x] then some (D.str p.2) else lookD false (kv2 ms) [.inr x]).isSome = _
    rw [kof_str]
    by_cases h : p.1 = x
    · subst h
      rw [if_pos rfl]
      simp [givs]
    · rw [if_neg (fun z => h (by
        injection z with z
        injection z with z _
        injection z)), ih]
      refine decide_eq_decide.mpr ?_
      unfold givs
      rw [List.map_cons, List.mem_cons]
      exact ⟨Or.inr, fun z => z.resolve_left fun e => h e.symm⟩
theorem put_new {ms : List Pr} {x y : Str} (h : x ∉ givs ms) : putDD false (kv2 ms) [.inr x] (.str y) = kv2 (ms ++ [(x, y)]) := by
  unfold putDD
  rw [look_iff, decide_eq_false h, if_neg (by decide)]
  unfold kv2
  rw [List.map_append]
  rfl
theorem del_wo (ms : List Pr) (x : Str) : delK (kv2 ms) (.inr x) = kv2 (wo x ms) := by
  unfold delK kv2 wo
  rw [List.filter_map]
  congr 1
  refine List.filter_congr fun p hp => ?_
  show decide (kOf false (.str p.1) ≠ some [.inr x]) = !decide (p.1 = x)
  rw [kof_str]
  by_cases h : p.1 = x
  · subst h; simp
  · simp [h]
theorem din_ok {S : Sto} {a : Nat} {ms : List Pr} {x : Str} (h : S[a]? = some (.dct false (kv2 ms))) : gDin S (.str x) (.ref a) = some (.bl (decide (x ∈ givs ms))) ∧ gDnotin S (.str x) (.ref a) = some (.bl (!decide (x ∈ givs ms))) := by
  unfold gDin gDnotin
  rw [vref h]
  constructor
  · show some (D.bl (lookD false (kv2 ms) [.inr x]).isSome) = _
    rw [look_iff]
  · show some (D.bl (!(lookD false (kv2 ms) [.inr x]).isSome)) = _
    rw [look_iff]
end K61

namespace MP
open PySem PySem.Spec PyProof.Rows L2
theorem and_b {ta tb : LT} {ρ : Ev} {S : Sto} {b1 b2 : Bool} (h1 : ta ρ S = .ok b1 S) (h2 : tb ρ S = .ok b2 S) : tAnd ta tb ρ S = .ok (b1 && b2) S := by
  cases b1
  · exact and_ff h1
  · exact and_tt h1 h2
end MP
namespace K61
open PySem PySem.Spec PyProof.Rows L2 MP TL
open K59 (Pr nm givs taks slt isL lets nm_ok sle sorted_strs cnt_nodup slt_trans slt_irrefl)
/-! ### a deed -/
def Fr3 (j c h : Nat) (S S' : Sto) : Prop := S.length ≤ S'.length ∧ ∀ k, k ≠ j → k ≠ c → k ≠ h → k < S.length → S'[k]? = S[k]?
theorem Fr3.refl {j c h : Nat} {S : Sto} : Fr3 j c h S S := ⟨Nat.le_refl _, fun _ _ _ _ _ => rfl⟩
theorem Fr3.trans {j c h : Nat} {S S1 S2 : Sto} (a : Fr3 j c h S S1) (b : Fr3 j c h S1 S2) : Fr3 j c h S S2 := ⟨Nat.le_trans a.1 b.1, fun k h1 h2 h3 h4 => (b.2 k h1 h2 h3 (Nat.lt_of_lt_of_le h4 a.1)).trans (a.2 k h1 h2 h3 h4)⟩
theorem Keep.fr3 {j c h : Nat} {S S' : Sto} (k : Keep j S S') : Fr3 j c h S S' := ⟨k.1, fun i h1 _ _ h4 => k.2 i h1 h4⟩
theorem Fr2.fr3 {j c h : Nat} {S S' : Sto} (k : Fr2 c h S S') : Fr3 j c h S S' := ⟨k.1, fun i _ h2 h3 h4 => k.2 i h2 h3 h4⟩
theorem ClubAt.keep {C : Addr} {c h j : Nat} {S S' : Sto} {q : StP} {n : Int} {hist : List StP} (ha : ClubAt C c h S q n hist) (k : Keep j S S') (h1 : c ≠ j) (h2 : h ≠ j) : ClubAt C c h S' q n hist := ⟨k.get ha.at_ h1, k.get ha.his h2, ha.ne⟩
theorem PotAt.fr {c h j : Nat} {S S' : Sto} {n : Int} (p : PotAt j n S) (k : Fr2 c h S S') (h1 : j ≠ c) (h2 : j ≠ h) : PotAt j n S' := by
  obtain ⟨dg, sd, ct, hh, r⟩ := p
  exact ⟨dg, sd, ct, k.get h1 h2 hh, r⟩
theorem below_st {n : Nat} : ∀ hist : List StP, belows n (hist.map stT) = true
  | [] => rfl
  | q :: hist => by
    show ((belows n (psD q.1) && (belows n (psD q.2) && (true && true))) && belows n (hist.map stT)) = true
    rw [below_ps, below_ps, below_st hist]
    rfl
theorem done_fin {C : Addr} {g : F} {ds : List D} {S S6 : Sto} {d d' : D} {j c h : Nat} {q6 : StP} {gp n : Int} {hist6 : List StP} (hg : g ds S = .ok d S6) (hfz : fz2 S6 S.length d = d') (hb : below S.length d' = true) (hj : j < S.length) (hc : c < S.length) (hh : h < S.length)
    (hp : PotAt j n S6) (ha : ClubAt C c h S6 q6 gp hist6) (fr : Fr3 j c h S S6) : ∃ S', gcF2 g ds S = .ok d' S' ∧ PotAt j n S' ∧ ClubAt C c h S' q6 gp hist6 ∧ Fr3 j c h S S' := by
  have tk : ∀ {k : Nat} {o : O}, k < S.length → S6[k]? = some o → (S6.take S.length)[k]? = some o := fun hk e => by rw [List.getElem?_take, if_pos hk]; exact e
  refine ⟨S6.take S.length, gcF2_ok hg hfz rfl hb fun i o ho hi => ?_, ?_, ⟨tk hc ha.at_, tk hh ha.his, ha.ne⟩, ?_⟩
  · by_cases h1 : i = j
    · subst h1
      obtain ⟨dg, sd, ct, e, _⟩ := hp
      rw [e] at ho
      cases ho
      exact .inr rfl
    · by_cases h2 : i = c
      · subst h2
        rw [ha.at_] at ho
        cases ho
        refine .inr ?_
        show (true && (belows S.length (psD q6.1) && (belows S.length (psD q6.2) && (true && (decide (h < S.length) && true))))) = true
        rw [below_ps, below_ps, decide_eq_true hh]
        rfl
      · by_cases h3 : i = h
        · subst h3
          rw [ha.his] at ho
          cases ho
          exact .inr (below_st hist6)
        · exact .inl (by rw [← fr.2 i h1 h2 h3 hi]; exact ho)
  · obtain ⟨dg, sd, ct, e, r⟩ := hp
    exact ⟨dg, sd, ct, tk hj e, r⟩
  · have := fr.1
    refine ⟨by rw [List.length_take]; omega, fun k h1 h2 h3 h4 => ?_⟩
    rw [List.getElem?_take, if_pos h4]
    exact fr.2 k h1 h2 h3 h4
theorem ne_bs {S : Sto} {b : Nat} {bs : List Pr} (h : S[b]? = some (.lst (psD bs))) (hg : ∀ p ∈ bs, gdP p) : gNe S (.ref b) (.lst []) = some (.bl (!decide (bs = []))) := by
  obtain ⟨a2, b2⟩ := lay_ps hg
  have sh : SeqAt.shaped (.list (bs.map encP)) = true := by
    unfold SeqAt.shaped
    rw [Bool.and_eq_true]
    refine ⟨by simpa [PyData.canLay0] using a2, decide_eq_true ?_⟩
    simp only [PyData.depth]
    omega
  have e : eqP S (.ref b) (.lst []) = some (decide (bs = [])) := by
    unfold eqP
    rw [vref h]
    show (toPD (.lst (psD bs))).bind _ = _
    have e1 : toPD (.lst (psD bs)) = some (.list (bs.map encP)) := by simp [toPD, toPDs_ps]
    rw [e1]
    show (if SeqAt.shaped (.list (bs.map encP)) = true ∧ SeqAt.shaped (.list []) = true then some (PyData.eqv (.list (bs.map encP)) (.list [])) else none) = _
    rw [if_pos ⟨sh, by kernel_rfl⟩]
    cases bs with
    | nil => simp [PyData.eqv, PyData.eqvAll]
    | cons q bs => simp [PyData.eqv, PyData.eqvAll]
  unfold gNe eqD
  rw [e]
  rfl
theorem below_sd {n : Nat} (q : StP) : below n (sD q) = true := by
  show (belowd n (kv2 q.1) && (belows n (psD q.2) && true)) = true
  rw [below_kv2, below_ps]
  rfl
theorem lt_ii (S : Sto) (i j : Int) : gLt2 S (.int i) (.int j) = some (.bl (decide (i < j))) := rfl
theorem at_memD {xs : List D} {v : Int} (h0 : 0 ≤ v) (h1 : v < (xs.length : Int)) : ∃ y, atI xs v = some y ∧ y ∈ xs := by
  have hv : v.toNat < xs.length := by omega
  refine ⟨xs[v.toNat], ?_, List.getElem_mem hv⟩
  unfold atI ixN
  rw [if_pos h0, if_pos h1]
  exact List.getElem?_eq_getElem hv
section
variable {P : Program} {w : World} {K : PySem.W.Frag} {mg : Str → Option Value} {base : Heap}
def SDone (C : Addr) (g : F) : Prop := ∀ (n : Int) (S : Sto) (j c h : Nat) (q : StP) (gp : Int) (hist : List StP) (ns : List Str), PotAt j n S → n < 10 ^ 28 → ClubAt C c h S (cn q) gp hist → c ≠ j → h ≠ j → hist.length ≤ 100 → NamesOk ns → GoodSt ns q → 0 ≤ gp → gp < 10 ^ 30 →
  ∃ S', PotAt j (n + 5) S' ∧ Fr3 j c h S S' ∧ ((g [.ref j, .ref c, sD q, .lst (ns.map D.str)] S = .ok .non S' ∧ ClubAt C c h S' (cn q) gp hist) ∨ ∃ q', GoodSt ns q' ∧ g [.ref j, .ref c, sD q, .lst (ns.map D.str)] S = .ok (.tup [sD q', .non]) S' ∧ ClubAt C c h S' (cn q') gp (hist ++ [cn q]))
theorem ok_done (T : T61 K mg) : ∃ g, FnL P w K mg base 5 T.f__law_done T.fd__law_done ["_law_pot_here", "_law_club", "_law_state", "_law_names_here"] g ∧ SDone T.C_Club g := by
  obtain ⟨gp_, Fn__law_pick, Sk⟩ := ok_pick (P := P) (w := w) (base := base) T
  obtain ⟨go, Fn__law_of, So⟩ := ok_of (P := P) (w := w) (base := base) T
  obtain ⟨gj, Fn_Club_join, Sj⟩ := ok_join (P := P) (w := w) (base := base) T
  obtain ⟨gl, Fn_Club_leave, Sl⟩ := ok_leave (P := P) (w := w) (base := base) T
  obtain ⟨gb, Fn_Club_bar, Sb⟩ := ok_bar (P := P) (w := w) (base := base) T
  obtain ⟨gu, Fn_Club_unbar, Su⟩ := ok_unbar (P := P) (w := w) (base := base) T
  obtain ⟨dsJ, dJ1, bJ1⟩ := T.dJ1
  refine ⟨gcF2 _, FnL.gc2 (Fun.okL T.F__law_done sc__law_done fun cdv A outer s H E hr =>
(pssl_cons (psl_par3 (i := 4) (j := 5) (l := 6) rfl sc__law_done.nd (pal_cons (pel_dictC rfl T.n_dict (by decide +kernel) (pal_cons (pel_ix ixl_seq (pel_var (i := 2)) pel_int) pal_nil)) (pal_cons (pel_listN rfl T.n_list (by decide +kernel) (pal_cons (pel_ix ixl_seq (pel_var (i := 2)) pel_int) pal_nil)) (pal_cons (pel_call Fn__law_pick (hr.mono (by decide)) rfl T.mg__law_pick T.F__law_pick.kp T.b__law_pick dfl_nil (pal_cons (pel_var (i := 0)) (pal_cons pel_int pal_nil))) pal_nil))))
  (pssl_cons (psl_par3 (i := 7) (j := 8) (l := 9) rfl sc__law_done.nd (pal_cons (pel_call Fn__law_of (hr.mono (by decide)) rfl T.mg__law_of T.F__law_of.kp T.b__law_of dfl_nil (pal_cons (pel_var (i := 0)) (pal_cons (pel_var (i := 3)) pal_nil))) (pal_cons (pel_call Fn__law_of (hr.mono (by decide)) rfl T.mg__law_of T.F__law_of.kp T.b__law_of dfl_nil (pal_cons (pel_var (i := 0)) (pal_cons (pel_var (i := 3)) pal_nil))) (pal_cons (pel_call Fn__law_of (hr.mono (by decide)) rfl T.mg__law_of T.F__law_of.kp T.b__law_of dfl_nil (pal_cons (pel_var (i := 0)) (pal_cons (pel_lst (pal_cons pel_str (pal_cons pel_str (pal_cons pel_str (pal_cons (pel_ix ixl_seq (pel_var (i := 3)) pel_int) pal_nil))))) pal_nil))) pal_nil))))
  (pssl_cons (psl_if (PWL.pt (pwl_and (ptl_cmp (opl_dnotin hr.units) (pel_var (i := 7)) (pel_var (i := 4))) (pwl_and1 (ptl_cmp (opl_lt2 hr.units) (pel_var (i := 6)) pel_int)))) (pssl_cons (psl_sub (psetl_dct hr.units) (pel_var (i := 4)) (pel_var (i := 7)) (pel_var (i := 9)))
  (pssl_one (psl_set (i := 10) sc__law_done.nd (pel_ifExp (PWL.pt (pwl_and (ptl_cmp (opl_eq hr.units) (pel_var (i := 9)) pel_str) (pwl_and1 (ptl_cmp (opl_lt2 hr.units) (pel_var (i := 6)) pel_int)))) (pel_meth T.cl_Club T.mt_Club_join Fn_Club_join (hr.mono (by decide)) bJ1 dJ1 (pel_var (i := 1)) (pal_cons (pel_var (i := 7)) pal_nil)) (pel_meth T.cl_Club T.mt_Club_join Fn_Club_join (hr.mono (by decide)) T.bJ2 dfl_nil (pel_var (i := 1)) (pal_cons (pel_var (i := 7)) (pal_cons (pel_var (i := 9)) pal_nil))))))) (pssl_one (psl_if (PWL.pt (pwl_and (ptl_cmp (opl_lt2 hr.units) (pel_var (i := 6)) pel_int) (pwl_and1 (ptl_cmp (opl_din hr.units) (pel_var (i := 7)) (pel_var (i := 4)))))) (pssl_cons (psl_expr (pel_dpop (pel_var (i := 4)) (pel_var (i := 7))))
  (pssl_one (psl_set (i := 10) sc__law_done.nd (pel_meth T.cl_Club T.mt_Club_leave Fn_Club_leave (hr.mono (by decide)) T.b_Club_leave dfl_nil (pel_var (i := 1)) (pal_cons (pel_var (i := 7)) pal_nil))))) (pssl_one (psl_if (PWL.pt (pwl_and (ptl_cmp (opl_lt2 hr.units) (pel_var (i := 6)) pel_int) (pwl_and (ptl_cmp (opl_din hr.units) (pel_var (i := 7)) (pel_var (i := 4))) (pwl_and (ptl_cmp (opl_din hr.units) (pel_var (i := 8)) (pel_var (i := 4))) (pwl_and (ptl_cmp (opl_notInD hr.units65) (pel_tup (pal_cons (pel_var (i := 7)) (pal_cons (pel_var (i := 8)) pal_nil))) (pel_var (i := 5))) (pwl_and1 (ptl_cmp (opl_lt2 hr.units) (pel_callB (cl_len) rfl T.n_len (by decide +kernel) (pal_cons (pel_var (i := 5)) pal_nil)) pel_int))))))) (pssl_cons (psl_expr (pel_append (pel_var (i := 5)) (pel_tup (pal_cons (pel_var (i := 7)) (pal_cons (pel_var (i := 8)) pal_nil)))))
  (pssl_one (psl_set (i := 10) sc__law_done.nd (pel_meth T.cl_Club T.mt_Club_bar Fn_Club_bar (hr.mono (by decide)) T.b_Club_bar dfl_nil (pel_var (i := 1)) (pal_cons (pel_var (i := 7)) (pal_cons (pel_var (i := 8)) pal_nil)))))) (pssl_one (psl_if (ptl_cmp (opl_ne hr.units) (pel_var (i := 5)) (pel_lst pal_nil)) (pssl_cons (psl_set (i := 11) sc__law_done.nd (pel_call Fn__law_of (hr.mono (by decide)) rfl T.mg__law_of T.F__law_of.kp T.b__law_of dfl_nil (pal_cons (pel_var (i := 0)) (pal_cons (pel_callB (cl_sorted hr.units) rfl T.n_sorted (by decide +kernel) (pal_cons (pel_var (i := 5)) pal_nil)) pal_nil))))
  (pssl_cons (psl_setLc (i := 5) (own := [("_law_pair", 12)]) sc__law_done.nd rfl (sw_true rfl rfl rfl (by decide +kernel)) rfl (pil_val (pel_var (i := 5))) (blkOk_by (N := N__law_done) (sc := defScope s__law_done) (by decide +kernel)) (.inl rfl) (fun _ _ _ _ _ => (pgl_name (i := 12) sc__law_done.nd)) (fun _ _ _ _ _ => (ptsl_one (ptl_cmp (opl_ne hr.units) (pel_var (i := 12)) (pel_var (i := 11))))) (fun _ _ _ _ _ => (pel_var (i := 12))))
  (pssl_one (psl_set (i := 10) sc__law_done.nd (pel_meth T.cl_Club T.mt_Club_unbar Fn_Club_unbar (hr.mono (by decide)) T.b_Club_unbar dfl_nil (pel_var (i := 1)) (pal_cons (pel_ix ixl_seq (pel_var (i := 11)) pel_int) (pal_cons (pel_ix ixl_seq (pel_var (i := 11)) pel_int) pal_nil))))))) (pssl_one (psl_ret pel_non)))))))))
  (pssl_one (psl_ret (pel_tup (pal_cons (pel_tup (pal_cons (pel_var (i := 4)) (pal_cons (pel_var (i := 5)) pal_nil))) (pal_cons (pel_var (i := 10)) pal_nil))))))))), ?_⟩
  intro n S j c h q gp hist ns hp hn ha hcj hhj hl hns hgs hg0 hg1
  have hG := good_st hns hgs hg0 hg1
  have hG2 := good_cn hG
  have hc : c < S.length := (List.getElem?_eq_some_iff.mp ha.at_).1
  have hh : h < S.length := (List.getElem?_eq_some_iff.mp ha.his).1
  have hj : j < S.length := hp.lt
  -- the copies
  obtain ⟨S1, hS1⟩ : ∃ S1, S1 = S ++ [O.dct false (kv2 q.1)] ++ [O.lst (psD q.2)] := ⟨_, rfl⟩
  have hp1 : PotAt j n S1 := by rw [hS1]; exact hp.push.push
  have fr1 : Fr3 j c h S S1 := by
    rw [hS1]
    refine ⟨by rw [List.length_append, List.length_append]; omega, fun k _ _ _ hk => ?_⟩
    rw [List.getElem?_append_left (by simp; omega), List.getElem?_append_left hk]
  have ha1 : ClubAt T.C_Club c h S1 (cn q) gp hist := by
    rw [hS1]
    refine ⟨?_, ?_, ha.ne⟩
    · rw [List.getElem?_append_left (by simp; omega), List.getElem?_append_left hc]; exact ha.at_
    · rw [List.getElem?_append_left (by simp; omega), List.getElem?_append_left hh]; exact ha.his
  have hA1 : S1[S.length]? = some (.dct false (kv2 q.1)) := by rw [hS1, List.getElem?_append_left (by simp)]; simp
  have hB1 : S1[S.length + 1]? = some (.lst (psD q.2)) := by rw [hS1, List.getElem?_append_right (by simp)]; simp
  have hl1 : S1.length = S.length + 2 := by rw [hS1]; simp
  have hlen : ns.length = 6 := hns.len
  have pickN : ∀ (S' : Sto) (v : Int), 0 ≤ v → v < 6 → ∃ y, gIx S' (.lst (ns.map D.str)) (.int v) = some y ∧ ∃ x ∈ ns, y = .str x := fun S' v v0 v1 => by
    obtain ⟨y, e1, e2⟩ := at_memD (xs := ns.map D.str) v0 (by rw [List.length_map, hlen]; exact v1)
    obtain ⟨x, hx, rfl⟩ := List.mem_map.mp e2
    exact ⟨_, e1, x, hx, rfl⟩
  have hgl : ∀ S' : Sto, gLen S' [.lst (ns.map D.str)] = some (.int 6) := fun S' => by
    show some (D.int ((ns.map D.str).length : Int)) = _
    rw [List.length_map, hlen]
    rfl
  obtain ⟨wy, S2, e2, w0, w1, p2, k2⟩ := Sk n S1 j 7 hp1 (by omega) (by decide) (by decide)
  obtain ⟨_, S3, e3, ⟨x, hx, rfl⟩, p3, k3⟩ := So _ S2 j (.lst (ns.map D.str)) 6 (fun d => ∃ x ∈ ns, d = .str x) p2 (by omega) (hgl _) (by decide) (by decide) fun S' v _ v0 v1 => pickN S' v v0 v1
  obtain ⟨_, S4, e4, ⟨y, hy, rfl⟩, p4, k4⟩ := So _ S3 j (.lst (ns.map D.str)) 6 (fun d => ∃ x ∈ ns, d = .str x) p3 (by omega) (hgl _) (by decide) (by decide) fun S' v _ v0 v1 => pickN S' v v0 v1
  obtain ⟨n0, hn0, hix0⟩ : ∃ n0 ∈ ns, ∀ S', gIx S' (.lst (ns.map D.str)) (.int 0) = some (.str n0) := by
    cases ns with
    | nil => cases hlen
    | cons a r => exact ⟨a, by simp, fun S' => by
        show atI (D.str a :: r.map D.str) 0 = _
        unfold atI ixN
        rw [if_pos (by decide), if_pos (by simp <;> omega)]
        rfl⟩
  obtain ⟨_, S5, e5, ⟨z, hz, rfl⟩, p5, k5⟩ := So _ S4 j (.lst [.str "", .str "", .str "hut", .str n0]) 4 (fun d => ∃ z, hsOk ns z ∧ d = .str z) p4 (by omega) rfl (by decide) (by decide) fun S' v _ v0 v1 => by
    have hv : v.toNat < 4 := by omega
    have e : ((v.toNat : Nat) : Int) = v := by omega
    rw [← e]
    generalize v.toNat = m at hv
    match m, hv with
    | 0, _ => exact ⟨_, rfl, _, .inl rfl, rfl⟩
    | 1, _ => exact ⟨_, rfl, _, .inl rfl, rfl⟩
    | 2, _ => exact ⟨_, rfl, _, .inr (.inl rfl), rfl⟩
    | 3, _ => exact ⟨_, rfl, _, .inr (.inr hn0), rfl⟩
  have kk := ((k2.trans k3).trans k4).trans k5
  have hAj : S.length ≠ j := by omega
  have hBj : S.length + 1 ≠ j := by omega
  have hA := kk.get hA1 hAj
  have hB := kk.get hB1 hBj
  have ha5 := ha1.keep kk hcj hhj
  have fr5 : Fr3 j c h S S5 := fr1.trans kk.fr3
  have p5' : PotAt j (n + 4) S5 := p5.mono (by omega)
  have hl5 : S.length + 2 ≤ S5.length := by have := kk.1; omega
  -- the first rows
  have r1 : lPar3 4 5 6 (aCons (lDictC (aCons (lBin gIx (lVar 2) (lC (.int 0))) aNil)) (aCons (lListN (aCons (lBin gIx (lVar 2) (lC (.int 1))) aNil)) (aCons (lCall 2 gp_ [] (aCons (lVar 0) (aCons (lC (.int 7)) aNil))) aNil))) [some (.ref j), some (.ref c), some (sD q), some (.lst (ns.map D.str)), none, none, none, none, none, none, none, none, none] S =
      .ok (.nx [some (.ref j), some (.ref c), some (sD q), some (.lst (ns.map D.str)), some (.ref S.length), some (.ref (S.length + 1)), some (.int wy), none, none, none, none, none, none]) S2 := by
    have d1 : lDictC (aCons (lBin gIx (lVar 2) (lC (.int 0))) aNil) [some (.ref j), some (.ref c), some (sD q), some (.lst (ns.map D.str)), none, none, none, none, none, none, none, none, none] S = .ok (.ref S.length) (S ++ [.dct false (kv2 q.1)]) := by
      unfold lDictC
      rw [acons_ok (bin_ok (d := .dct false (kv2 q.1)) rfl rfl rfl) rfl, bind_ok]
      rfl
    have d2 : lListN (aCons (lBin gIx (lVar 2) (lC (.int 1))) aNil) [some (.ref j), some (.ref c), some (sD q), some (.lst (ns.map D.str)), none, none, none, none, none, none, none, none, none] (S ++ [.dct false (kv2 q.1)]) = .ok (.ref (S.length + 1)) S1 := by
      rw [hS1]
      have hb : lBin gIx (lVar 2) (lC (.int 1)) [some (.ref j), some (.ref c), some (sD q), some (.lst (ns.map D.str)), none, none, none, none, none, none, none, none, none] (S ++ [.dct false (kv2 q.1)]) = .ok (.lst (psD q.2)) (S ++ [.dct false (kv2 q.1)]) := bin_ok rfl rfl rfl
      have hgi : gItems (S ++ [.dct false (kv2 q.1)]) [.lst (psD q.2)] = some (psD q.2) := rfl
      rw [listN_ok (acons_ok hb rfl) hgi]
      simp
    exact par3_ok (acons_ok d1 (acons_ok d2 (acons_ok (call_ok (acons_ok rfl (acons_ok rfl rfl)) rfl e2) rfl)))
  have r2 : lPar3 7 8 9 (aCons (lCall 2 go [] (aCons (lVar 0) (aCons (lVar 3) aNil))) (aCons (lCall 2 go [] (aCons (lVar 0) (aCons (lVar 3) aNil))) (aCons (lCall 2 go [] (aCons (lVar 0) (aCons (lLst (aCons (lC (.str "")) (aCons (lC (.str "")) (aCons (lC (.str "hut")) (aCons (lBin gIx (lVar 3) (lC (.int 0))) aNil))))) aNil))) aNil))) [some (.ref j), some (.ref c), some (sD q), some (.lst (ns.map D.str)), some (.ref S.length), some (.ref (S.length + 1)), some (.int wy), none, none, none, none, none, none] S2 =
      .ok (.nx [some (.ref j), some (.ref c), some (sD q), some (.lst (ns.map D.str)), some (.ref S.length), some (.ref (S.length + 1)), some (.int wy), some (.str x), some (.str y), some (.str z), none, none, none]) S5 :=
    par3_ok (acons_ok (call_ok (acons_ok rfl (acons_ok rfl rfl)) rfl e3) (acons_ok (call_ok (acons_ok rfl (acons_ok rfl rfl)) rfl e4) (acons_ok (call_ok (acons_ok rfl (acons_ok (lst_ok (acons_ok rfl (acons_ok rfl (acons_ok rfl (acons_ok (bin_ok rfl rfl (hix0 _)) rfl)))) (by simp)) rfl)) rfl e5) rfl)))
  have ndin := (din_ok (x := x) hA).2
  have dinx := (din_ok (x := x) hA).1
  have diny := (din_ok (x := y) hA).1
  have gxy : gdP (x, y) := ⟨(hns.nm _ hx).1, .inr (hns.nm _ hy).1⟩
  have nin := (in_ps (S := S5) (p := (x, y)) (ps := q.2) (c := .ref (S.length + 1)) gxy hG.gb (.inr (by rw [vref hB]; rfl))).2
  have hlenB : gLen S5 [.ref (S.length + 1)] = some (.int (q.2.length : Int)) := by
    unfold gLen
    dsimp only
    rw [vref hB]
    show some (D.int ((psD q.2).length : Int)) = _
    rw [psD_len]
  have fin : ∀ {q' : StP} {v5 : D} {S6 : Sto} {g : F}, GoodSt ns q' → S6[S.length]? = some (.dct false (kv2 q'.1)) → (v5 = .lst (psD q'.2) ∨ (v5 = .ref (S.length + 1) ∧ S6[S.length + 1]? = some (.lst (psD q'.2)))) → PotAt j (n + 5) S6 → ClubAt T.C_Club c h S6 (cn q') gp (hist ++ [cn q]) → Fr3 j c h S S6 → 
      g [.ref j, .ref c, sD q, .lst (ns.map D.str)] S = .ok (.tup [.tup [.ref S.length, v5], .non]) S6 → ∃ S', PotAt j (n + 5) S' ∧ Fr3 j c h S S' ∧ ((gcF2 g [.ref j, .ref c, sD q, .lst (ns.map D.str)] S = .ok .non S' ∧ ClubAt T.C_Club c h S' (cn q) gp hist) ∨ ∃ q', GoodSt ns q' ∧ gcF2 g [.ref j, .ref c, sD q, .lst (ns.map D.str)] S = .ok (.tup [sD q', .non]) S' ∧ ClubAt T.C_Club c h S' (cn q') gp (hist ++ [cn q])) := by
    intro q' v5 S6 g hq' h1 h2 h3 h4 h5 h6
    suffices hs : ∃ S', gcF2 g [.ref j, .ref c, sD q, .lst (ns.map D.str)] S = .ok (.tup [sD q', .non]) S' ∧ PotAt j (n + 5) S' ∧ ClubAt T.C_Club c h S' (cn q') gp (hist ++ [cn q]) ∧ Fr3 j c h S S' by
      obtain ⟨S', g1, g2, g3, g4⟩ := hs
      exact ⟨S', g2, g4, .inr ⟨q', hq', g1, g3⟩⟩
    refine done_fin h6 ?_ (by show (below S.length (sD q') && (true && true)) = true; rw [below_sd]; rfl) hj hc hh h3 h4 h5
    have f1 : MP.fz0 S6 S.length (.ref S.length) = .dct false (kv2 q'.1) := by
      unfold MP.fz0
      dsimp only
      rw [if_neg (by omega), vref h1]
      rfl
    have f2 : MP.fz0 S6 S.length v5 = .lst (psD q'.2) := by
      rcases h2 with rfl | ⟨rfl, h2⟩
      · rfl
      · unfold MP.fz0
        dsimp only
        rw [if_neg (by omega), vref h2]
        rfl
    show D.tup [D.tup [MP.fz0 S6 S.length (.ref S.length), MP.fz0 S6 S.length v5], .non] = _
    rw [f1, f2]
    rfl
  have ltw : ∀ (i : Int) (b : Bool), decide (wy < i) = b → tTru (lBin gLt2 (lVar 6) (lC (.int i))) [some (.ref j), some (.ref c), some (sD q), some (.lst (ns.map D.str)), some (.ref S.length), some (.ref (S.length + 1)), some (.int wy), some (.str x), some (.str y), some (.str z), none, none, none] S5 = .ok b S5 := fun i b hb => tru_b (bin_ok rfl rfl (lt_ii _ _ _)) hb
  have c1 : ∀ b, ((!decide (x ∈ givs q.1)) && decide (wy < 5)) = b → MP.tAnd (tTru (lBin gDnotin (lVar 7) (lVar 4))) (tTru (lBin gLt2 (lVar 6) (lC (.int 5)))) [some (.ref j), some (.ref c), some (sD q), some (.lst (ns.map D.str)), some (.ref S.length), some (.ref (S.length + 1)), some (.int wy), some (.str x), some (.str y), some (.str z), none, none, none] S5 = .ok b S5 := fun b hb => hb ▸ and_b (tru_b (bin_ok rfl rfl ndin) rfl) (ltw 5 _ rfl)
  have c2 : ∀ b, (decide (wy < 2) && decide (x ∈ givs q.1)) = b → MP.tAnd (tTru (lBin gLt2 (lVar 6) (lC (.int 2)))) (tTru (lBin gDin (lVar 7) (lVar 4))) [some (.ref j), some (.ref c), some (sD q), some (.lst (ns.map D.str)), some (.ref S.length), some (.ref (S.length + 1)), some (.int wy), some (.str x), some (.str y), some (.str z), none, none, none] S5 = .ok b S5 := fun b hb => hb ▸ and_b (ltw 2 _ rfl) (tru_b (bin_ok rfl rfl dinx) rfl)
  have c3 : ∀ b, (decide (wy < 5) && (decide (x ∈ givs q.1) && (decide (y ∈ givs q.1) && ((!decide ((x, y) ∈ q.2)) && decide ((q.2.length : Int) < 30))))) = b → MP.tAnd (tTru (lBin gLt2 (lVar 6) (lC (.int 5)))) (MP.tAnd (tTru (lBin gDin (lVar 7) (lVar 4))) (MP.tAnd (tTru (lBin gDin (lVar 8) (lVar 4))) (MP.tAnd (tTru (lBin gNotInD (lTup (aCons (lVar 7) (aCons (lVar 8) aNil))) (lVar 5))) (tTru (lBin gLt2 (lCallB gLen (aCons (lVar 5) aNil)) (lC (.int 30))))))) [some (.ref j), some (.ref c), some (sD q), some (.lst (ns.map D.str)), some (.ref S.length), some (.ref (S.length + 1)), some (.int wy), some (.str x), some (.str y), some (.str z), none, none, none] S5 = .ok b S5 := fun b hb => hb ▸ and_b (ltw 5 _ rfl) (and_b (tru_b (bin_ok rfl rfl dinx) rfl) (and_b (tru_b (bin_ok rfl rfl diny) rfl) (and_b (tru_b (bin_ok (tup_ok (acons_ok rfl (acons_ok rfl rfl)) (by simp)) rfl nin) rfl) (tru_b (bin_ok (callb_ok (acons_ok rfl rfl) hlenB) rfl (lt_ii _ _ _)) rfl))))
  have sA : ∀ {o : O} {S7 : Sto}, Fr2 c h (S5.set S.length o) S7 → S7[S.length]? = some o := fun {o S7} f => f.get (by omega) (by omega) (get_set hA)
  have sB : ∀ {k : Nat} {o o' : O} {S7 : Sto}, Fr2 c h (S5.set k o) S7 → ∀ {i : Nat}, i ≠ k → S.length ≤ i → S5[i]? = some o' → S7[i]? = some o' := fun {k o o' S7} f {i} hi hS e => f.get (by omega) (by omega) (by rw [get_set_ne (Ne.symm hi)]; exact e)
  have frX : ∀ {k : Nat} {o : O} {S7 : Sto}, S.length ≤ k → Fr2 c h (S5.set k o) S7 → Fr3 j c h S S7 := fun {k o S7} hk f => by
    have h1 := f.1
    have h2 := fr5.1
    rw [List.length_set] at h1
    refine ⟨by omega, fun i g1 g2 g3 g4 => ?_⟩
    rw [f.2 i g2 g3 (by rw [List.length_set]; omega), get_set_ne (by omega)]
    exact fr5.2 i g1 g2 g3 g4
  have pX : ∀ {k : Nat} {o : O} {S7 : Sto}, S.length ≤ k → Fr2 c h (S5.set k o) S7 → PotAt j (n + 5) S7 := fun {k o S7} hk f => (PotAt.fr (p5'.set (i := k) (o := o) (by omega)) f (Ne.symm hcj) (Ne.symm hhj)).mono (by omega)
  by_cases b1 : ((!decide (x ∈ givs q.1)) && decide (wy < 5)) = true
  · -- one joins
    rw [Bool.and_eq_true, Bool.not_eq_true', decide_eq_false_iff_not] at b1
    have hput : stDct S5 (.ref S.length) (.str x) (.str z) = some (S5.set S.length (.dct false (kv2 (q.1 ++ [(x, z)])))) := by
      unfold stDct
      dsimp only
      rw [hA]
      dsimp only
      rw [if_pos (by unfold kv2; rw [List.length_map, sizeLine_eq]; have := hG.lm; omega)]
      show some (S5.set S.length (.dct false (putDD false (kv2 q.1) [.inr x] (.str z)))) = _
      rw [put_new b1.1]
    have ha6 : ClubAt T.C_Club c h (S5.set S.length (.dct false (kv2 (q.1 ++ [(x, z)])))) (cn q) gp hist := ⟨by rw [get_set_ne (by omega)]; exact ha5.at_, by rw [get_set_ne (by omega)]; exact ha5.his, ha5.ne⟩
    obtain ⟨S7, e7, ha7, f7⟩ := Sj _ c h (cn q) gp hist x z ha6 (by omega) (by have := hG2.lm; omega) (fun hm => b1.1 (givs_sort.mp hm))
    have hcn : ((cn q).1 ++ [(x, z)]).mergeSort leP = (cn (q.1 ++ [(x, z)], q.2)).1 := sort_snoc
    have ha7' : ClubAt T.C_Club c h S7 (cn (q.1 ++ [(x, z)], q.2)) gp (hist ++ [cn q]) := by
      have : (((cn q).1 ++ [(x, z)]).mergeSort leP, (cn q).2) = cn (q.1 ++ [(x, z)], q.2) := by rw [hcn]; rfl
      rw [← this]
      exact ha7
    have told : lIf (MP.tAnd (tTru (lBin gEq (lVar 9) (lC (.str "")))) (tTru (lBin gLt2 (lVar 6) (lC (.int 2))))) (lMeth T.C_Club "join" 3 gj [.str ""] (lVar 1) (aCons (lVar 7) aNil)) (lMeth T.C_Club "join" 3 gj [] (lVar 1) (aCons (lVar 7) (aCons (lVar 9) aNil))) [some (.ref j), some (.ref c), some (sD q), some (.lst (ns.map D.str)), some (.ref S.length), some (.ref (S.length + 1)), some (.int wy), some (.str x), some (.str y), some (.str z), none, none, none] (S5.set S.length (.dct false (kv2 (q.1 ++ [(x, z)])))) = .ok .non S7 := by
      have t1 : MP.tAnd (tTru (lBin gEq (lVar 9) (lC (.str "")))) (tTru (lBin gLt2 (lVar 6) (lC (.int 2)))) [some (.ref j), some (.ref c), some (sD q), some (.lst (ns.map D.str)), some (.ref S.length), some (.ref (S.length + 1)), some (.int wy), some (.str x), some (.str y), some (.str z), none, none, none] (S5.set S.length (.dct false (kv2 (q.1 ++ [(x, z)])))) = .ok (decide (z = "") && decide (wy < 2)) (S5.set S.length (.dct false (kv2 (q.1 ++ [(x, z)])))) := and_b (tru_b (bin_ok rfl rfl eq_ss) rfl) (tru_b (bin_ok rfl rfl (lt_ii _ _ _)) rfl)
      cases hb : (decide (z = "") && decide (wy < 2)) with
      | true =>
        rw [hb] at t1
        rw [Bool.and_eq_true, decide_eq_true_eq] at hb
        have e7' := e7
        rw [hb.1] at e7'
        refine ife_tt t1 (meth_ok (d := .ref c) rfl (recv_at2 ha6.at_ rfl) (acons_ok rfl rfl) rfl ?_)
        rw [hb.1]
        exact e7'
      | false =>
        rw [hb] at t1
        exact ife_ff t1 (meth_ok (d := .ref c) rfl (recv_at2 ha6.at_ rfl) (acons_ok rfl (acons_ok rfl rfl)) rfl e7)
    have hq' := good_join hgs hx hz b1.1
    exact fin hq' (sA f7) (.inr ⟨rfl, sB f7 (by omega) (by omega) hB⟩) (pX (Nat.le_refl _) f7) ha7' (frX (Nat.le_refl _) f7)
      (body_rt (seq_nx r1 (seq_nx r2 (seq_nx (if_tt (c1 true (by rw [decide_eq_false b1.1, b1.2]; rfl)) (seq_nx (stS_ok rfl rfl rfl hput) (set_ok told))) (ret_ok (tup_ok (acons_ok (tup_ok (acons_ok rfl (acons_ok rfl rfl)) (by simp)) (acons_ok rfl rfl)) (by simp)))))))
  rw [Bool.not_eq_true] at b1
  by_cases b2 : (decide (wy < 2) && decide (x ∈ givs q.1)) = true
  · -- one leaves
    have b2' := b2
    rw [Bool.and_eq_true, decide_eq_true_eq, decide_eq_true_eq] at b2
    have hpop : ∃ dv, stDpop S5 (.ref S.length) [.str x] = some (dv, S5.set S.length (.dct false (kv2 (wo x q.1)))) := by
      obtain ⟨p, hpm, rfl⟩ := List.mem_map.mp b2.2
      refine ⟨.str p.2, ?_⟩
      unfold stDpop
      dsimp only
      rw [hA]
      show ((lookD false (kv2 q.1) [.inr p.1]).map fun d => (d, S5.set S.length (.dct false (delK (kv2 q.1) (.inr p.1))))) = _
      rw [look_kv2 hpm hG.nd, del_wo]
      rfl
    obtain ⟨dv, hpop⟩ := hpop
    have isd : isTy "dict" S5 (.ref S.length) = true := by
      unfold isTy
      rw [vref hA]
      rfl
    have ha6 : ClubAt T.C_Club c h (S5.set S.length (.dct false (kv2 (wo x q.1)))) (cn q) gp hist := ⟨by rw [get_set_ne (by omega)]; exact ha5.at_, by rw [get_set_ne (by omega)]; exact ha5.his, ha5.ne⟩
    obtain ⟨S7, e7, ha7, f7⟩ := Sl _ c h (cn q) gp hist x ha6 (by omega) hG2 (givs_sort.mpr b2.2)
    have ha7' : ClubAt T.C_Club c h S7 (cn (wo x q.1, q.2)) gp (hist ++ [cn q]) := by
      have : (wo x (cn q).1, (cn q).2) = cn (wo x q.1, q.2) := by
        show (wo x (q.1.mergeSort leP), _) = _
        unfold wo
        rw [sort_filter]
        rfl
      rw [← this]
      exact ha7
    exact fin (good_leave hgs x) (sA f7) (.inr ⟨rfl, sB f7 (by omega) (by omega) hB⟩) (pX (Nat.le_refl _) f7) ha7' (frX (Nat.le_refl _) f7)
      (body_rt (seq_nx r1 (seq_nx r2 (seq_nx (if_ff (c1 false b1) (if_tt (c2 true b2') (seq_nx (expr_ok (bm_ok rfl isd (acons_ok rfl rfl) hpop)) (set_ok (meth_ok (d := .ref c) rfl (recv_at2 ha6.at_ rfl) (acons_ok rfl rfl) rfl e7))))) (ret_ok (tup_ok (acons_ok (tup_ok (acons_ok rfl (acons_ok rfl rfl)) (by simp)) (acons_ok rfl rfl)) (by simp)))))))
  rw [Bool.not_eq_true] at b2
  by_cases b3 : (decide (wy < 5) && (decide (x ∈ givs q.1) && (decide (y ∈ givs q.1) && ((!decide ((x, y) ∈ q.2)) && decide ((q.2.length : Int) < 30))))) = true
  · -- a bar
    have b3' := b3
    simp only [Bool.and_eq_true, Bool.not_eq_true', decide_eq_true_eq, decide_eq_false_iff_not] at b3
    obtain ⟨_, m1, m2, m3, m4⟩ := b3
    have happ : stApp S5 (.ref (S.length + 1)) [.tup [.str x, .str y]] = some (.non, S5.set (S.length + 1) (.lst (psD (q.2 ++ [(x, y)])))) := by
      rw [app_ok hB (by rw [psD_len]; omega)]
      unfold psD
      rw [List.map_append]
      rfl
    have ha6 : ClubAt T.C_Club c h (S5.set (S.length + 1) (.lst (psD (q.2 ++ [(x, y)])))) (cn q) gp hist := ⟨by rw [get_set_ne (by omega)]; exact ha5.at_, by rw [get_set_ne (by omega)]; exact ha5.his, ha5.ne⟩
    obtain ⟨S7, e7, ha7, f7⟩ := Sb _ c h (cn q) gp hist x y ha6 (by omega) hG2 (givs_sort.mpr m1) (givs_sort.mpr m2) gxy (fun hm => m3 (mem_sort.mp hm))
    have ha7' : ClubAt T.C_Club c h S7 (cn (q.1, q.2 ++ [(x, y)])) gp (hist ++ [cn q]) := by
      have : ((cn q).1, ((cn q).2 ++ [(x, y)]).mergeSort leP) = cn (q.1, q.2 ++ [(x, y)]) := by
        show (_, (q.2.mergeSort leP ++ [(x, y)]).mergeSort leP) = _
        rw [sort_snoc]
        rfl
      rw [← this]
      exact ha7
    have sB2 : S7[S.length + 1]? = some (.lst (psD (q.2 ++ [(x, y)]))) := f7.get (by omega) (by omega) (get_set hB)
    exact fin (good_bar hgs hx hy m3 (by omega)) (sB f7 (by omega) (by omega) hA) (.inr ⟨rfl, sB2⟩) (pX (by omega) f7) ha7' (frX (by omega) f7)
      (body_rt (seq_nx r1 (seq_nx r2 (seq_nx (if_ff (c1 false b1) (if_ff (c2 false b2) (if_tt (c3 true b3') (seq_nx (expr_ok (bm_ok rfl (isl_at hB) (acons_ok (tup_ok (acons_ok rfl (acons_ok rfl rfl)) (by simp)) rfl) happ)) (set_ok (meth_ok (d := .ref c) rfl (recv_at2 ha6.at_ rfl) (acons_ok rfl (acons_ok rfl rfl)) rfl e7)))))) (ret_ok (tup_ok (acons_ok (tup_ok (acons_ok rfl (acons_ok rfl rfl)) (by simp)) (acons_ok rfl rfl)) (by simp)))))))
  rw [Bool.not_eq_true] at b3
  have hne := ne_bs hB hG.gb
  by_cases b4 : q.2 = []
  · -- nothing
    have finN : ∀ {g : F}, g [.ref j, .ref c, sD q, .lst (ns.map D.str)] S = .ok .non S5 → ∃ S', PotAt j (n + 5) S' ∧ Fr3 j c h S S' ∧ ((gcF2 g [.ref j, .ref c, sD q, .lst (ns.map D.str)] S = .ok .non S' ∧ ClubAt T.C_Club c h S' (cn q) gp hist) ∨ ∃ q', GoodSt ns q' ∧ gcF2 g [.ref j, .ref c, sD q, .lst (ns.map D.str)] S = .ok (.tup [sD q', .non]) S' ∧ ClubAt T.C_Club c h S' (cn q') gp (hist ++ [cn q])) := by
      intro g hg
      obtain ⟨S', g1, g2, g3, g4⟩ := done_fin (d' := .non) hg rfl rfl hj hc hh (p5'.mono (show n + 4 ≤ n + 5 by omega)) ha5 fr5
      exact ⟨S', g2, g4, .inl ⟨g1, g3⟩⟩
    exact finN (body_rt (seq_nx r1 (seq_nx r2 (seq_rt (if_ff (c1 false b1) (if_ff (c2 false b2) (if_ff (c3 false b3) (if_ff (tru_b (bin_ok rfl rfl hne) (by rw [decide_eq_true b4]; rfl)) (ret_ok rfl)))))))))
  · -- a bar less
    have hsort : lCallB gSorted (aCons (lVar 5) aNil) [some (.ref j), some (.ref c), some (sD q), some (.lst (ns.map D.str)), some (.ref S.length), some (.ref (S.length + 1)), some (.int wy), some (.str x), some (.str y), some (.str z), none, none, none] S5 = .ok (.lst (psD (q.2.mergeSort leP))) S5 := callb_ok (acons_ok rfl rfl) (by
      unfold gSorted
      dsimp only
      rw [vref hB]
      show (if srtOk (psD q.2) = true then some (D.lst ((psD q.2).mergeSort leD)) else none) = _
      rw [if_pos (srt_ps _ (by have := hG.lb; omega)), sort_ps])
    have hls : (q.2.mergeSort leP).length = q.2.length := (List.mergeSort_perm q.2 leP).length_eq
    have hpos : 0 < q.2.length := List.length_pos_iff.mpr b4
    obtain ⟨_, S6, e6, ⟨r, hrm, rfl⟩, p6, k6⟩ := So _ S5 j (.lst (psD (q.2.mergeSort leP))) (q.2.length : Int) (fun d => ∃ r ∈ q.2, d = pD r) p5 (by omega) (by
        show some (D.int ((psD (q.2.mergeSort leP)).length : Int)) = _
        rw [psD_len, hls]) (by omega) (by have := hG.lb; omega) fun S' v _ v0 v1 => by
      obtain ⟨d, g1, g2⟩ := at_memD (xs := psD (q.2.mergeSort leP)) v0 (by rw [psD_len, hls]; exact v1)
      obtain ⟨r, hr, rfl⟩ := List.mem_map.mp g2
      exact ⟨_, g1, r, mem_sort.mp hr, rfl⟩
    have ha6 := ha5.keep k6 hcj hhj
    have hA6 := k6.get hA hAj
    have hB6 := k6.get hB hBj
    obtain ⟨S7, e7, ha7, f7⟩ := Su _ c h (cn q) gp hist r.1 r.2 ha6 (by omega) hG2 (mem_sort.mpr hrm)
    have ha7' : ClubAt T.C_Club c h S7 (cn (q.1, woP r q.2)) gp (hist ++ [cn q]) := by
      have : ((cn q).1, woP (r.1, r.2) (cn q).2) = cn (q.1, woP r q.2) := by
        show (_, woP r (q.2.mergeSort leP)) = _
        unfold woP
        rw [sort_filter]
        rfl
      rw [← this]
      exact ha7
    have hcomp : lComp (lIter (lVar 5)) [12] (gtName 12) (tTru (lBin gNe (lVar 12) (lVar 11))) (lVar 12) [some (.ref j), some (.ref c), some (sD q), some (.lst (ns.map D.str)), some (.ref S.length), some (.ref (S.length + 1)), some (.int wy), some (.str x), some (.str y), some (.str z), none, some (pD r), none] S6 = .ok (.lst (psD (woP r q.2))) S6 := by
      refine comp_okL (iter_ok (d := .ref (S.length + 1)) (it := ⟨psD q.2, fun S' => S'[S.length + 1]? = some (.lst (psD q.2))⟩) rfl (by unfold iterOf; dsimp only; rw [hB6])) (by have := hG.lb; show (psD q.2).length ≤ _; rw [psD_len]; omega) ?_
      exact comp_filter (enc := pD) (f := pD) (p := fun u : Pr => !decide (u = r)) hB6 q.2 fun u hu => ⟨_, rfl, tru_b (bin_ok rfl rfl (ne_pp (hG.gb u hu) (hG.gb r hrm))) rfl, fun _ => rfl⟩
    have hk7 : Fr3 j c h S S7 := fr5.trans (k6.fr3.trans f7.fr3)
    have hp7 : PotAt j (n + 5) S7 := PotAt.fr (p6.mono (by omega)) f7 (Ne.symm hcj) (Ne.symm hhj)
    exact fin (good_unbar hgs r) (f7.get (by omega) (by omega) hA6) (.inl rfl) hp7 ha7' hk7
      (body_rt (seq_nx r1 (seq_nx r2 (seq_nx (if_ff (c1 false b1) (if_ff (c2 false b2) (if_ff (c3 false b3) (if_tt (tru_b (bin_ok rfl rfl hne) (by rw [decide_eq_false b4]; rfl)) (seq_nx (set_ok (call_ok (acons_ok rfl (acons_ok hsort rfl)) rfl e6)) (seq_nx (set_ok hcomp) (set_ok (meth_ok (d := .ref c) rfl (recv_at2 ha6.at_ rfl) (acons_ok (bin_ok rfl rfl rfl) (acons_ok (bin_ok rfl rfl rfl) rfl)) rfl e7)))))))) (ret_ok (tup_ok (acons_ok (tup_ok (acons_ok rfl (acons_ok rfl rfl)) (by simp)) (acons_ok rfl rfl)) (by simp)))))))
end
end K61

namespace K61
open PySem PySem.Spec PyProof.Rows L2 MP TL
open K06 (riP Cd pair_rise)
open K59 (Pr nm givs taks slt isL lets nm_ok sle sorted_strs cnt_nodup slt_trans slt_irrefl)
/-! ### the same circle by other deeds -/
theorem sorted_of {a l : List Str} (hp : a.Perm l) (ha : a.Pairwise fun x y => slt x y = true) : l.mergeSort sle = a := by
  refine (PySem.W.Srt.the_of_perm sle (fun a b c h1 h2 => decide_eq_true (List.le_trans (of_decide_eq_true h1) (of_decide_eq_true h2))) (fun a b => ?_) (fun a b h1 h2 => ext_tl (List.le_antisymm (of_decide_eq_true h1) (of_decide_eq_true h2))) hp (ha.imp fun {a b} q => ?_)).symm
  · rw [Bool.or_eq_true]
    exact (List.le_total (tl a) (tl b)).imp decide_eq_true decide_eq_true
  · exact decide_eq_true (List.not_lt.mp (List.lt_asymm (of_decide_eq_true q)))
theorem sort_rise {ms : List Pr} (h : (givs ms).Nodup) : (givs (ms.mergeSort leP)).Pairwise fun a b => slt a b = true := by
  have hpm := List.mergeSort_perm ms leP
  have hp : (ms.mergeSort leP).Pairwise fun a b => leP a b = true := List.pairwise_mergeSort (le := leP) leP_trans leP_total _
  have hn : (givs (ms.mergeSort leP)).Nodup := (hpm.map (fun p : Pr => p.1)).nodup_iff.mpr h
  unfold givs at hn ⊢
  rw [List.pairwise_map]
  have hn' : (ms.mergeSort leP).Pairwise fun a b => a.1 ≠ b.1 := List.pairwise_map.mp hn
  refine (List.pairwise_and_iff.mpr ⟨hp, hn'⟩).imp fun {a b} q => ?_
  rcases leP_iff.mp q.1 with e | z
  · exact absurd (congrArg Prod.fst e) q.2
  · rcases ltP_iff.mp z with ⟨_, z2⟩ | ⟨z1, _⟩
    · exact decide_eq_true z2
    · exact absurd z1 q.2
def HG (hist : List StP) : Prop := ∀ q ∈ hist, (∀ p ∈ q.1, gdP p) ∧ ∀ p ∈ q.2, gdP p
theorem HG.snoc {hist : List StP} {q : StP} {n : Int} (h : HG hist) (hg : GoodC q.1 q.2 n) : HG (hist ++ [q]) := fun r hr => by
  rcases List.mem_append.mp hr with hr | hr
  · exact h r hr
  · rw [List.mem_singleton.mp hr]
    exact ⟨hg.gm, hg.gb⟩
/-- a loop each turn of which is a deed -/
theorem club_loop {α : Type} {C : Addr} {c h : Nat} {gp : Int} {g : GT} {lb : LS} {enc : α → D} {ρ : Ev} {st : List α → StP} (all : List α)
    (step : ∀ (x : α) (done rest : List α) (S : Sto) (hist : List StP), all = done ++ x :: rest → ClubAt C c h S (st done) gp hist → hist.length ≤ 200 → ∃ ρ1 ρ' S', g (enc x) ρ = some ρ1 ∧ lb ρ1 S = .ok (.nx ρ') S' ∧ wk ρ ρ' = ρ ∧ ClubAt C c h S' (st (done ++ [x])) gp (hist ++ [st done]) ∧ Fr2 c h S S')
    (hst : ∀ (done rest : List α), all = done ++ rest → GoodC (st done).1 (st done).2 gp) :
    ∀ (xs done : List α) (S : Sto) (hist : List StP), all = done ++ xs → ClubAt C c h S (st done) gp hist → hist.length + xs.length ≤ 200 → HG hist →
      ∃ S' hist', forG ρ (fun _ => True) g lb (xs.map enc) ρ S = .ok (.nx ρ) S' ∧ ClubAt C c h S' (st all) gp hist' ∧ hist'.length = hist.length + xs.length ∧ HG hist' ∧ Fr2 c h S S' := by
  intro xs
  induction xs with
  | nil => intro done S hist ha hc hl hg; rw [List.append_nil] at ha; subst ha; exact ⟨S, hist, for_end trivial, hc, rfl, hg, Fr2.refl⟩
  | cons x xs ih =>
    intro done S hist ha hc hl hg
    simp only [List.length_cons] at hl
    obtain ⟨ρ1, ρ', S1, e1, e2, e3, e4, e5⟩ := step x done xs S hist ha hc (by omega)
    obtain ⟨S2, hist2, f1, f2, f3, f4, f5⟩ := ih (done ++ [x]) S1 (hist ++ [st done]) (by rw [ha]; simp) e4 (by simp; omega) (hg.snoc (hst done (x :: xs) ha))
    exact ⟨S2, hist2, for_go trivial e1 e2 (by rw [e3]; exact f1), f2, by rw [f3]; simp; omega, f4, e5.trans f5⟩
theorem nodup_rev {α : Type} {l : List α} (h : l.Nodup) : l.reverse.Nodup := (List.reverse_perm l).nodup_iff.mpr h
theorem nm_x : nm "x" = true := by kernel_rfl
def st1 (done : List Str) : StP := ((done.map fun x => ((x, "x") : Pr)).mergeSort leP, [])
def st2 (M : List Pr) (done : List Pr) : StP := (M, done.mergeSort leP)
def st3 (M B : List Pr) (done : List Str) : StP := (M.filter fun p => !decide (p.1 ∈ done), B)
def st4 (B : List Pr) (done : List Pr) : StP := (done.mergeSort leP, B)
theorem st1_nil : st1 [] = ([], []) := by unfold st1; simp
theorem st2_nil (M : List Pr) : st2 M [] = (M, []) := by unfold st2; simp
theorem givs_x (l : List Str) : givs (l.map fun x => ((x, "x") : Pr)) = l := by
  unfold givs
  rw [List.map_map]
  exact List.map_id _
theorem good1 {ns done rest : List Str} {gp : Int} (hn : NamesOk ns) (ha : ns.reverse = done ++ rest) (h0 : 0 ≤ gp) (h1 : gp < 10 ^ 30) : GoodC (st1 done).1 (st1 done).2 gp := by
  have hd : done.Nodup := ((List.nodup_append.mp (ha ▸ nodup_rev hn.nd : (done ++ rest).Nodup))).1
  have hm : ∀ x ∈ done, x ∈ ns := fun x hx => List.mem_reverse.mp (by rw [ha]; exact List.mem_append_left _ hx)
  have hl : done.length ≤ 6 := by
    have := congrArg List.length ha
    rw [List.length_reverse, hn.len, List.length_append] at this
    omega
  have p1 := List.mergeSort_perm (done.map fun x => ((x, "x") : Pr)) leP
  refine ⟨?_, ?_, Nat.zero_le _, List.nodup_nil, fun p hp => ?_, (fun p hp => nomatch hp), h0, h1⟩
  · show ((done.map fun x => ((x, "x") : Pr)).mergeSort leP).length ≤ 30
    rw [p1.length_eq, List.length_map]
    omega
  · show (givs ((done.map fun x => ((x, "x") : Pr)).mergeSort leP)).Nodup
    refine (show (givs _).Nodup from (p1.map (fun p : Pr => p.1)).nodup_iff.mpr ?_)
    have := givs_x done
    unfold givs at this
    rw [this]
    exact hd
  · obtain ⟨x, hx, rfl⟩ := List.mem_map.mp (p1.mem_iff.mp hp)
    exact ⟨(hn.nm x (hm x hx)).1, .inr nm_x⟩
section
variable {P : Program} {w : World} {K : PySem.W.Frag} {mg : Str → Option Value} {base : Heap}
def SBy (C : Addr) (g : F) : Prop := ∀ (S : Sto) (q : StP) (gp : Int) (ns : List Str), NamesOk ns → GoodSt ns q → 0 ≤ gp → gp < 10 ^ 30 →
  ∃ S' hist, g [sD q, .lst (ns.map D.str), .int gp] S = .ok (.ref S.length) S' ∧ ClubAt C S.length (S.length + 1) S' (cn q) gp hist ∧ hist.length ≤ 60 ∧ HG hist ∧ S.length + 2 ≤ S'.length ∧ ∀ k, k < S.length → S'[k]? = S[k]?
theorem ok_by (T : T61 K mg) : ∃ g, FnL P w K mg base 5 T.f__law_by_others T.fd__law_by_others ["_law_state", "_law_names_here", "_law_gap"] g ∧ SBy T.C_Club g := by
  obtain ⟨g_Club___init__, Fn_Club___init__, Sn⟩ := ok_kinit (P := P) (w := w) (base := base) T
  obtain ⟨gj, Fn_Club_join, Sj⟩ := ok_join (P := P) (w := w) (base := base) T
  obtain ⟨gl, Fn_Club_leave, Sl⟩ := ok_leave (P := P) (w := w) (base := base) T
  obtain ⟨gb, Fn_Club_bar, Sb⟩ := ok_bar (P := P) (w := w) (base := base) T
  refine ⟨_, Fun.okL T.F__law_by_others sc__law_by_others fun cdv A outer s H E hr =>
(pssl_cons (psl_set (i := 3) sc__law_by_others.nd (pel_make (n := 1) T.mk_Club Fn_Club___init__ (gn := mkF T.C_Club g_Club___init__) (fun _ _ => .refl _) (hr.mono (by decide)) rfl T.mg_Club T.bK dfl_nil (pal_cons (pel_var (i := 2)) pal_nil)))
  (pssl_cons (psl_for (passes_of rfl) rfl (pil_val (pel_rev (pel_var (i := 1)))) (pgl_name (i := 4) sc__law_by_others.nd) (pssl_one (psl_expr (pel_meth T.cl_Club T.mt_Club_join Fn_Club_join (hr.mono (by decide)) T.bJ2 dfl_nil (pel_var (i := 3)) (pal_cons (pel_var (i := 4)) (pal_cons pel_str pal_nil))))))
  (pssl_cons (psl_for (passes_of rfl) rfl (pil_val (pel_rev (pel_callB (cl_sorted hr.units) rfl T.n_sorted (by decide +kernel) (pal_cons (pel_ix ixl_seq (pel_var (i := 0)) pel_int) pal_nil)))) (pgl_tup (n := 2) rfl (pgsl_cons (pgl_name (i := 5) sc__law_by_others.nd) (pgsl_cons (pgl_name (i := 6) sc__law_by_others.nd) pgsl_nil))) (pssl_one (psl_expr (pel_meth T.cl_Club T.mt_Club_bar Fn_Club_bar (hr.mono (by decide)) T.b_Club_bar dfl_nil (pel_var (i := 3)) (pal_cons (pel_var (i := 5)) (pal_cons (pel_var (i := 6)) pal_nil))))))
  (pssl_cons (psl_for (passes_of rfl) rfl (pil_val (pel_var (i := 1))) (pgl_name (i := 4) sc__law_by_others.nd) (pssl_one (psl_expr (pel_meth T.cl_Club T.mt_Club_leave Fn_Club_leave (hr.mono (by decide)) T.b_Club_leave dfl_nil (pel_var (i := 3)) (pal_cons (pel_var (i := 4)) pal_nil)))))
  (pssl_cons (psl_for (passes_of rfl) rfl (pil_val (pel_rev (pel_callB (cl_sortedD rfl hr.units) rfl T.n_sorted (by decide +kernel) (pal_cons (pel_ix ixl_seq (pel_var (i := 0)) pel_int) pal_nil)))) (pgl_name (i := 4) sc__law_by_others.nd) (pssl_one (psl_expr (pel_meth T.cl_Club T.mt_Club_join Fn_Club_join (hr.mono (by decide)) T.bJ2 dfl_nil (pel_var (i := 3)) (pal_cons (pel_var (i := 4)) (pal_cons (pel_ix (ixl_dct hr.units) (pel_ix ixl_seq (pel_var (i := 0)) pel_int) (pel_var (i := 4))) pal_nil))))))
  (pssl_one (psl_ret (pel_var (i := 3))))))))), ?_⟩
  intro S q gp ns hn hgs h0 h1
  have hG := good_st hn hgs h0 h1
  have hG2 := good_cn hG
  obtain ⟨S0, hS0⟩ : ∃ S0, S0 = S ++ [O.ins T.C_Club (clFs [] [] gp (S.length + 1)), .lst []] := ⟨_, rfl⟩
  have ha0 : ClubAt T.C_Club S.length (S.length + 1) S0 (st1 []) gp [] := by
    rw [hS0, st1_nil]
    refine ⟨?_, ?_, by omega⟩
    · rw [List.getElem?_append_right (Nat.le_refl _), Nat.sub_self]; rfl
    · rw [List.getElem?_append_right (by omega), show S.length + 1 - S.length = 1 by omega]; rfl
  obtain ⟨ρ, hρ⟩ : ∃ ρ : Ev, ρ = [some (sD q), some (.lst (ns.map D.str)), some (.int gp), some (.ref S.length), none, none, none] := ⟨_, rfl⟩
  have hlen : ns.length = 6 := hn.len
  -- all join
  obtain ⟨S1, hist1, e1, a1, l1, g1, f1⟩ := club_loop (C := T.C_Club) (c := S.length) (h := S.length + 1) (gp := gp) (g := gtName 4) (lb := lExpr (lMeth T.C_Club "join" 3 gj [] (lVar 3) (aCons (lVar 4) (aCons (lC (.str "x")) aNil)))) (enc := D.str) (ρ := ρ) (st := st1) ns.reverse
    (fun x done rest S hist ha hc hl => by
      have hg := good1 hn ha h0 h1
      have hx : x ∉ givs (st1 done).1 := fun z => by
        have z2 : x ∈ done := by
          have := givs_sort.mp z
          rwa [givs_x] at this
        have hd := (List.nodup_append.mp (ha ▸ nodup_rev hn.nd : (done ++ x :: rest).Nodup)).2.2 x z2 x (by simp)
        exact hd rfl
      obtain ⟨S', b1, b2, b3⟩ := Sj S _ _ (st1 done) gp hist x "x" hc hl (by have := hg.lm; omega) hx
      have he : (((st1 done).1 ++ [((x, "x") : Pr)]).mergeSort leP, (st1 done).2) = st1 (done ++ [x]) := by
        unfold st1
        rw [List.map_append]
        show (((done.map fun x => ((x, "x") : Pr)).mergeSort leP ++ [((x, "x") : Pr)]).mergeSort leP, _) = _
        rw [sort_snoc]
        rfl
      rw [he] at b2
      refine ⟨_, _, S', rfl, expr_ok (meth_ok (d := .ref _) (by rw [hρ]; rfl) (recv_at2 hc.at_ rfl) (acons_ok (by rw [hρ]; rfl) (acons_ok rfl rfl)) rfl b1), by rw [hρ]; rfl, b2, b3⟩)
    (fun done rest ha => good1 hn ha h0 h1) ns.reverse [] S0 [] rfl ha0 (by simp; omega) (fun r hr => nomatch hr)
  have gA := good1 (rest := []) hn (List.append_nil _).symm h0 h1
  have hM1 : ∀ x, x ∈ givs (st1 ns.reverse).1 ↔ x ∈ ns := fun x => by
    rw [show (st1 ns.reverse).1 = ((ns.reverse.map fun x => ((x, "x") : Pr)).mergeSort leP) from rfl, givs_sort, givs_x, List.mem_reverse]
  -- the bars
  have good2 : ∀ done rest : List Pr, (cn q).2.reverse = done ++ rest → GoodC (st2 (st1 ns.reverse).1 done).1 (st2 (st1 ns.reverse).1 done).2 gp := fun done rest ha => by
    have p1 := List.mergeSort_perm done leP
    have hd : done.Nodup := (List.nodup_append.mp (ha ▸ nodup_rev hG2.nb : (done ++ rest).Nodup)).1
    have hm : ∀ p ∈ done, p ∈ (cn q).2 := fun p hp => List.mem_reverse.mp (by rw [ha]; exact List.mem_append_left _ hp)
    have hl : done.length ≤ 100 := by
      have := congrArg List.length ha
      rw [List.length_reverse, List.length_append] at this
      have := hG2.lb
      omega
    exact ⟨gA.lm, gA.nd, by show (done.mergeSort leP).length ≤ 100; rw [p1.length_eq]; exact hl, p1.nodup_iff.mpr hd, gA.gm, fun p hp => hG2.gb p (hm p (p1.mem_iff.mp hp)), h0, h1⟩
  have hlb : (cn q).2.length ≤ 30 := by
    show (q.2.mergeSort leP).length ≤ 30
    rw [(List.mergeSort_perm q.2 leP).length_eq]
    exact hgs.lb
  obtain ⟨S2, hist2, e2, a2, l2, g2, f2⟩ := club_loop (C := T.C_Club) (c := S.length) (h := S.length + 1) (gp := gp) (g := gtTup 2 (gtCons (gtName 5) (gtCons (gtName 6) gtNil))) (lb := lExpr (lMeth T.C_Club "bar" 3 gb [] (lVar 3) (aCons (lVar 5) (aCons (lVar 6) aNil)))) (enc := pD) (ρ := ρ) (st := st2 (st1 ns.reverse).1) (cn q).2.reverse
    (fun x done rest S hist ha hc hl => by
      have hg := good2 done (x :: rest) ha
      have hxm : x ∈ (cn q).2 := List.mem_reverse.mp (by rw [ha]; simp)
      obtain ⟨n1, n2⟩ := hgs.bs x (mem_sort.mp hxm)
      have hx : (x.1, x.2) ∉ (st2 (st1 ns.reverse).1 done).2 := fun z => by
        have z2 : x ∈ done := mem_sort.mp z
        exact (List.nodup_append.mp (ha ▸ nodup_rev hG2.nb : (done ++ x :: rest).Nodup)).2.2 x z2 x (by simp) rfl
      obtain ⟨S', b1, b2, b3⟩ := Sb S _ _ _ gp hist x.1 x.2 hc hl hg ((hM1 _).mpr n1) ((hM1 _).mpr n2) (hG2.gb x hxm) hx
      have he : ((st2 (st1 ns.reverse).1 done).1, ((st2 (st1 ns.reverse).1 done).2 ++ [(x.1, x.2)]).mergeSort leP) = st2 (st1 ns.reverse).1 (done ++ [x]) := by
        show (_, (done.mergeSort leP ++ [x]).mergeSort leP) = _
        rw [sort_snoc]
        rfl
      rw [he] at b2
      refine ⟨_, _, S', by rw [hρ]; rfl, expr_ok (meth_ok (d := .ref _) rfl (recv_at2 hc.at_ rfl) (acons_ok rfl (acons_ok rfl rfl)) rfl b1), by rw [hρ]; rfl, b2, b3⟩)
    good2 (cn q).2.reverse [] S1 hist1 rfl (by rw [st2_nil]; exact a1) (by rw [l1]; simp; omega) g1
  -- all leave
  have hB : (cn q).2.reverse.mergeSort leP = (cn q).2 := by
    rw [sort_perm (List.reverse_perm _)]
    exact sort_self (List.pairwise_mergeSort (le := leP) leP_trans leP_total _)
  have a2' : ClubAt T.C_Club S.length (S.length + 1) S2 (st3 (st1 ns.reverse).1 (cn q).2 []) gp hist2 := by
    have : st2 (st1 ns.reverse).1 (cn q).2.reverse = st3 (st1 ns.reverse).1 (cn q).2 [] := by
      unfold st2 st3
      rw [hB]
      have hf : ((st1 ns.reverse).1.filter fun p => !decide (p.1 ∈ ([] : List Str))) = (st1 ns.reverse).1 := List.filter_eq_self.mpr fun p _ => rfl
      rw [hf]
    rw [← this]
    exact a2
  have good3 : ∀ done rest : List Str, ns = done ++ rest → GoodC (st3 (st1 ns.reverse).1 (cn q).2 done).1 (st3 (st1 ns.reverse).1 (cn q).2 done).2 gp := fun done rest ha =>
    ⟨Nat.le_trans (List.length_filter_le _ _) gA.lm, (List.filter_sublist.map _).nodup gA.nd, hG2.lb, hG2.nb, fun p hp => gA.gm p (List.mem_filter.mp hp).1, hG2.gb, h0, h1⟩
  obtain ⟨S3, hist3, e3, a3, l3, g3, f3⟩ := club_loop (C := T.C_Club) (c := S.length) (h := S.length + 1) (gp := gp) (g := gtName 4) (lb := lExpr (lMeth T.C_Club "leave" 2 gl [] (lVar 3) (aCons (lVar 4) aNil))) (enc := D.str) (ρ := ρ) (st := st3 (st1 ns.reverse).1 (cn q).2) ns
    (fun x done rest S hist ha hc hl => by
      have hg := good3 done (x :: rest) ha
      have hnd : x ∉ done := fun z => (List.nodup_append.mp (ha ▸ hn.nd : (done ++ x :: rest).Nodup)).2.2 x z x (by simp) rfl
      have hx : x ∈ givs (st3 (st1 ns.reverse).1 (cn q).2 done).1 := by
        obtain ⟨p, hp, hpx⟩ := List.mem_map.mp ((hM1 x).mpr (by rw [ha]; simp))
        refine List.mem_map.mpr ⟨p, List.mem_filter.mpr ⟨hp, ?_⟩, hpx⟩
        rw [show p.1 = x from hpx, decide_eq_false hnd]
        rfl
      obtain ⟨S', b1, b2, b3⟩ := Sl S _ _ _ gp hist x hc hl hg hx
      have he : (wo x (st3 (st1 ns.reverse).1 (cn q).2 done).1, (st3 (st1 ns.reverse).1 (cn q).2 done).2) = st3 (st1 ns.reverse).1 (cn q).2 (done ++ [x]) := by
        unfold st3 wo
        dsimp only
        rw [List.filter_filter]
        congr 1
        refine List.filter_congr fun p hp => ?_
        by_cases z1 : p.1 = x <;> by_cases z2 : p.1 ∈ done <;> simp [z1, z2]
      rw [he] at b2
      refine ⟨_, _, S', rfl, expr_ok (meth_ok (d := .ref _) (by rw [hρ]; rfl) (recv_at2 hc.at_ rfl) (acons_ok (by rw [hρ]; rfl) rfl) rfl b1), by rw [hρ]; rfl, b2, b3⟩)
    good3 ns [] S2 hist2 rfl a2' (by rw [l2, l1]; simp; omega) g2
  -- the members
  have a3' : ClubAt T.C_Club S.length (S.length + 1) S3 (st4 (cn q).2 []) gp hist3 := by
    have : st3 (st1 ns.reverse).1 (cn q).2 ns = st4 (cn q).2 [] := by
      unfold st3 st4
      have : ((st1 ns.reverse).1.filter fun p => !decide (p.1 ∈ ns)) = [] := List.filter_eq_nil_iff.mpr fun p hp => by
        rw [decide_eq_true ((hM1 p.1).mp (List.mem_map_of_mem (f := fun p : Pr => p.1) hp))]
        decide
      rw [this]
      simp
    rw [← this]
    exact a3
  have good4 : ∀ done rest : List Pr, (cn q).1.reverse = done ++ rest → GoodC (st4 (cn q).2 done).1 (st4 (cn q).2 done).2 gp := fun done rest ha => by
    have p1 := List.mergeSort_perm done leP
    have hgn : (givs (done ++ rest)).Nodup := by
      rw [← ha]
      unfold givs
      rw [List.map_reverse]
      exact nodup_rev hG2.nd
    have hd : (givs done).Nodup := by
      unfold givs at hgn ⊢
      rw [List.map_append] at hgn
      exact (List.nodup_append.mp hgn).1
    have hm : ∀ p ∈ done, p ∈ (cn q).1 := fun p hp => List.mem_reverse.mp (by rw [ha]; exact List.mem_append_left _ hp)
    have hl : done.length ≤ 30 := by
      have := congrArg List.length ha
      rw [List.length_reverse, List.length_append] at this
      have := hG2.lm
      omega
    exact ⟨by show (done.mergeSort leP).length ≤ 30; rw [p1.length_eq]; exact hl, (show (givs (done.mergeSort leP)).Nodup from (p1.map (fun p : Pr => p.1)).nodup_iff.mpr hd), hG2.lb, hG2.nb, fun p hp => hG2.gm p (hm p (p1.mem_iff.mp hp)), hG2.gb, h0, h1⟩
  have hlm : (cn q).1.length ≤ 6 := by
    have := pigeon (givs (cn q).1) ns hG2.nd fun x hx => by
      obtain ⟨p, hp, rfl⟩ := List.mem_map.mp hx
      exact (hgs.ms p (mem_sort.mp hp)).1
    unfold givs at this
    rw [List.length_map, hlen] at this
    exact this
  obtain ⟨S4, hist4, e4, a4, l4, g4, f4⟩ := club_loop (C := T.C_Club) (c := S.length) (h := S.length + 1) (gp := gp) (g := gtName 4) (lb := lExpr (lMeth T.C_Club "join" 3 gj [] (lVar 3) (aCons (lVar 4) (aCons (lBin gDix (lBin gIx (lVar 0) (lC (.int 0))) (lVar 4)) aNil)))) (enc := fun p : Pr => D.str p.1) (ρ := ρ) (st := st4 (cn q).2) (cn q).1.reverse
    (fun x done rest S hist ha hc hl => by
      have hg := good4 done (x :: rest) ha
      have hxm : x ∈ (cn q).1 := List.mem_reverse.mp (by rw [ha]; simp)
      have hgn : (givs (done ++ x :: rest)).Nodup := by
        rw [← ha]
        unfold givs
        rw [List.map_reverse]
        exact nodup_rev hG2.nd
      have hx : x.1 ∉ givs (st4 (cn q).2 done).1 := fun z => by
        have z2 : x.1 ∈ givs done := givs_sort.mp z
        unfold givs at hgn z2
        rw [List.map_append] at hgn
        exact (List.nodup_append.mp hgn).2.2 x.1 z2 x.1 (by simp) rfl
      obtain ⟨S', b1, b2, b3⟩ := Sj S _ _ _ gp hist x.1 x.2 hc hl (by have := hg.lm; omega) hx
      have he : (((st4 (cn q).2 done).1 ++ [(x.1, x.2)]).mergeSort leP, (st4 (cn q).2 done).2) = st4 (cn q).2 (done ++ [x]) := by
        show ((done.mergeSort leP ++ [x]).mergeSort leP, _) = _
        rw [sort_snoc]
        rfl
      rw [he] at b2
      have hix : gDix S (.dct false (kv2 q.1)) (.str x.1) = some (.str x.2) := by
        show (some [Sum.inr x.1]).bind (fun ks => lookD false (kv2 q.1) ks) = _
        exact look_kv2 (mem_sort.mp hxm) hgs.nd
      refine ⟨_, _, S', rfl, expr_ok (meth_ok (d := .ref _) (by rw [hρ]; rfl) (recv_at2 hc.at_ rfl) (acons_ok (by rw [hρ]; rfl) (acons_ok (bin_ok (bin_ok (d := .dct false (kv2 q.1)) (by rw [hρ]; rfl) rfl rfl) (by rw [hρ]; rfl) hix) rfl)) rfl b1), by rw [hρ]; rfl, b2, b3⟩)
    good4 (cn q).1.reverse [] S3 hist3 rfl a3' (by rw [l3, l2, l1]; simp; omega) g3
  have a4' : ClubAt T.C_Club S.length (S.length + 1) S4 (cn q) gp hist4 := by
    have : st4 (cn q).2 (cn q).1.reverse = cn q := by
      unfold st4
      rw [sort_perm (List.reverse_perm _)]
      have hs : (cn q).1.mergeSort leP = (cn q).1 := sort_self (List.pairwise_mergeSort (le := leP) leP_trans leP_total _)
      rw [hs]
    rw [← this]
    exact a4
  have hnew := Sn S gp
  have ff := ((f1.trans f2).trans f3).trans f4
  have hsort : ∀ S' : Sto, gSortedD S' [.dct false (kv2 q.1)] = some (.lst ((givs (cn q).1).map D.str)) := fun S' => by
    have e : (kv2 q.1).map (·.1) = (givs q.1).map D.str := kv2_keys q.1
    have hs := sorted_strs S' (.lst ((givs q.1).map D.str)) (givs q.1) rfl (by have := hG.lm; simp [givs]; omega)
    have hm : (givs q.1).mergeSort sle = givs (cn q).1 := sorted_of ((List.mergeSort_perm q.1 leP).map (fun p : Pr => p.1)) (sort_rise hgs.nd)
    rw [hm] at hs
    have hs2 : (if srtOk ((givs q.1).map D.str) = true then some (D.lst (((givs q.1).map D.str).mergeSort leD)) else none) = some (.lst ((givs (cn q).1).map D.str)) := hs
    show (if srtOk ((kv2 q.1).map (·.1)) = true then some (D.lst (((kv2 q.1).map (·.1)).mergeSort leD)) else none) = _
    rw [e]
    exact hs2
  have r1 : ∀ S' : Sto, lIter (lUn gRev (lVar 1)) ρ S' = .ok ⟨ns.reverse.map D.str, fun _ => True⟩ S' := fun S' => iter_ok (un_ok (x := .lst (ns.map D.str)) (by rw [hρ]; rfl) (show some (D.lst (ns.map D.str).reverse) = _ from rfl)) (by rw [← List.map_reverse]; rfl)
  have r2 : ∀ S' : Sto, lIter (lUn gRev (lCallB gSorted (aCons (lBin gIx (lVar 0) (lC (.int 1))) aNil))) ρ S' = .ok ⟨(cn q).2.reverse.map pD, fun _ => True⟩ S' := fun S' => iter_ok (un_ok (callb_ok (acons_ok (bin_ok (d := .lst (psD q.2)) (by rw [hρ]; rfl) rfl rfl) rfl) (gsort_ok (by have := hG.lb; omega))) (show some (D.lst (psD (q.2.mergeSort leP)).reverse) = _ from rfl)) (by
    show some (Its'.mk ((psD (q.2.mergeSort leP)).reverse) (fun _ => True)) = _
    unfold psD
    rw [← List.map_reverse]
    rfl)
  have r3 : ∀ S' : Sto, lIter (lVar 1) ρ S' = .ok ⟨ns.map D.str, fun _ => True⟩ S' := fun S' => iter_ok (d := .lst (ns.map D.str)) (by rw [hρ]; rfl) rfl
  have r4 : ∀ S' : Sto, lIter (lUn gRev (lCallB gSortedD (aCons (lBin gIx (lVar 0) (lC (.int 0))) aNil))) ρ S' = .ok ⟨(cn q).1.reverse.map (fun p : Pr => D.str p.1), fun _ => True⟩ S' := fun S' => iter_ok (un_ok (callb_ok (acons_ok (bin_ok (d := .dct false (kv2 q.1)) (by rw [hρ]; rfl) rfl rfl) rfl) (hsort S')) (show some (D.lst ((givs (cn q).1).map D.str).reverse) = _ from rfl)) (by
    show some (Its'.mk (((givs (cn q).1).map D.str).reverse) (fun _ => True)) = _
    unfold givs
    rw [List.map_map, ← List.map_reverse]
    rfl)
  refine ⟨S4, hist4, body_rt (seq_nx (ρ' := ρ) (S1 := S0) (by rw [hρ, hS0]; exact set_ok (call_ok (acons_ok rfl rfl) rfl hnew)) (seq_nx (for_ok (r1 S0) e1) (seq_nx (for_ok (r2 S1) e2) (seq_nx (for_ok (r3 S2) e3) (seq_nx (for_ok (r4 S3) e4) (ret_ok (by rw [hρ]; rfl))))))), a4', by rw [l4, l3, l2, l1]; simp; omega, g4, ?_, fun k hk => ?_⟩
  · have := ff.1
    rw [hS0] at this
    simp at this
    omega
  · rw [ff.2 k (by omega) (by omega) (by rw [hS0]; simp; omega), hS0, List.getElem?_append_left hk]
end
end K61

namespace K61
open PySem PySem.Spec PyProof.Rows L2 MP TL
open K59 (Pr nm givs taks slt isL lets nm_ok sle sorted_strs cnt_nodup slt_trans slt_irrefl)
/-! ### another bar, another house: another club -/
theorem ClubAt.fr {C : Addr} {c h c2 h2 : Nat} {S S' : Sto} {q : StP} {n : Int} {hist : List StP} (ha : ClubAt C c h S q n hist) (f : Fr2 c2 h2 S S') (d1 : c ≠ c2) (d2 : c ≠ h2) (d3 : h ≠ c2) (d4 : h ≠ h2) : ClubAt C c h S' q n hist := ⟨f.get d1 d2 ha.at_, f.get d3 d4 ha.his, ha.ne⟩
theorem cut_take1 (xs : List D) : MP.cutD xs none (some 1) = xs.take 1 := by
  unfold MP.cutD
  cases xs with
  | nil => rfl
  | cons a r => simp [HT.sIx]
theorem cut_last (xs : List D) : MP.cutD xs (some (-1)) none = xs.drop (xs.length - 1) := by
  unfold MP.cutD
  have e : HT.sIx xs.length 0 (some (-1)) = xs.length - 1 := by
    show (if (-1 : Int) < 0 then ((-1 : Int) + (xs.length : Int)).toNat else min (-1 : Int).toNat xs.length) = _
    rw [if_pos (by decide)]
    omega
  rw [e, HT.sIx_none, List.take_of_length_le (by rw [List.length_drop]; exact Nat.le_refl _)]
theorem notv_ok {l : LE} {ρ : Ev} {S S1 : Sto} {b : Bool} (h : l ρ S = .ok (.bl b) S1) : lNotV l ρ S = .ok (.bl (!b)) S1 := by
  unfold lNotV; rw [h]; rfl
theorem nm_else : nm "elsewhere" = true := by kernel_rfl
theorem hs_else {ns : List Str} (hn : NamesOk ns) : ¬ hsOk ns "elsewhere" := by
  intro h
  rcases h with h | h | h
  · exact absurd h (by decide)
  · exact absurd h (by decide)
  · exact absurd (hn.nm _ h).2 (by decide)
section
variable {P : Program} {w : World} {K : PySem.W.Frag} {mg : Str → Option Value} {base : Heap}
def SUnl (C : Addr) (g : F) : Prop := ∀ (S : Sto) (c h c2 h2 : Nat) (q : StP) (gp : Int) (hist hist2 : List StP) (ns : List Str), ClubAt C c h S (cn q) gp hist → ClubAt C c2 h2 S (cn q) gp hist2 → c ≠ c2 → c ≠ h2 → h ≠ c2 → h ≠ h2 → NamesOk ns → GoodSt ns q → 0 ≤ gp → gp < 10 ^ 30 → HG hist2 → hist2.length ≤ 100 →
  ∃ S', g [.ref c, .ref c2, sD q] S = .ok (.bl true) S' ∧ ClubAt C c2 h2 S' (cn q) gp hist2 ∧ Fr2 c2 h2 S S'
theorem ok_unl (T : T61 K mg) : ∃ g, FnL P w K mg base 7 T.f__law_unlike_right T.fd__law_unlike_right ["_law_club", "_law_other", "_law_state"] g ∧ SUnl T.C_Club g := by
  have Fn_Club___eq__ := ok_keq (P := P) (w := w) (base := base) T
  obtain ⟨gj, Fn_Club_join, Sj⟩ := ok_join (P := P) (w := w) (base := base) T
  obtain ⟨gl, Fn_Club_leave, Sl⟩ := ok_leave (P := P) (w := w) (base := base) T
  obtain ⟨gb, Fn_Club_bar, Sb⟩ := ok_bar (P := P) (w := w) (base := base) T
  obtain ⟨gu, Fn_Club_unbar, Su⟩ := ok_unbar (P := P) (w := w) (base := base) T
  obtain ⟨gk, Fn_Club_back, Sk⟩ := ok_back (P := P) (w := w) (base := base) T
  refine ⟨_, Fun.okL T.F__law_unlike_right sc__law_unlike_right fun cdv A outer s H E hr =>
(pssl_cons (psl_for (passes_of rfl) rfl (pil_val (pel_slice sll_any (pel_callB (cl_sortedD rfl hr.units) rfl T.n_sorted (by decide +kernel) (pal_cons (pel_ix ixl_seq (pel_var (i := 2)) pel_int) pal_nil)) pol_none (pol_some pel_int))) (pgl_name (i := 3) sc__law_unlike_right.nd) (pssl_cons (psl_if (ptl_cmp (opl_inD hr.units65) (pel_tup (pal_cons (pel_var (i := 3)) (pal_cons (pel_var (i := 3)) pal_nil))) (pel_ix ixl_seq (pel_var (i := 2)) pel_int)) (pssl_one (psl_expr (pel_meth T.cl_Club T.mt_Club_unbar Fn_Club_unbar (hr.mono (by decide)) T.b_Club_unbar dfl_nil (pel_var (i := 1)) (pal_cons (pel_var (i := 3)) (pal_cons (pel_var (i := 3)) pal_nil))))) (pssl_one (psl_expr (pel_meth T.cl_Club T.mt_Club_bar Fn_Club_bar (hr.mono (by decide)) T.b_Club_bar dfl_nil (pel_var (i := 1)) (pal_cons (pel_var (i := 3)) (pal_cons (pel_var (i := 3)) pal_nil))))))
  (pssl_cons (psl_if (PWL.pt (pwl_or (ptl_cmp (opl_ownEq ⟨⟨4, _, _, _, Fn_Club___eq__, hr.mono (by decide), T.b_Club___eq__, rfl, T.a_Club___eq__, T.i_Club___eq__⟩, T.fst_Club⟩) (pel_var (i := 0)) (pel_var (i := 1))) (pwl_or1 (ptl_not (ptl_cmp (opl_ownNe ⟨⟨4, _, _, _, Fn_Club___eq__, hr.mono (by decide), T.b_Club___eq__, rfl, T.a_Club___eq__, T.i_Club___eq__⟩, T.fst_Club⟩ T.ne_Club T.ok_Club.hm) (pel_var (i := 0)) (pel_var (i := 1))))))) (pssl_one (psl_ret pel_bl)) pssl_nil)
  (pssl_cons (psl_expr (pel_meth0 T.cl_Club T.mt_Club_back Fn_Club_back (hr.mono (by decide)) T.b_Club_back dfl_nil (pel_var (i := 1))))
  (pssl_cons (psl_expr (pel_meth T.cl_Club T.mt_Club_leave Fn_Club_leave (hr.mono (by decide)) T.b_Club_leave dfl_nil (pel_var (i := 1)) (pal_cons (pel_var (i := 3)) pal_nil)))
  (pssl_cons (psl_expr (pel_meth T.cl_Club T.mt_Club_join Fn_Club_join (hr.mono (by decide)) T.bJ2 dfl_nil (pel_var (i := 1)) (pal_cons (pel_var (i := 3)) (pal_cons pel_str pal_nil))))
  (pssl_cons (psl_if (PWL.pt (pwl_or (ptl_cmp (opl_ownEq ⟨⟨4, _, _, _, Fn_Club___eq__, hr.mono (by decide), T.b_Club___eq__, rfl, T.a_Club___eq__, T.i_Club___eq__⟩, T.fst_Club⟩) (pel_var (i := 0)) (pel_var (i := 1))) (pwl_or1 (ptl_not (ptl_cmp (opl_ownNe ⟨⟨4, _, _, _, Fn_Club___eq__, hr.mono (by decide), T.b_Club___eq__, rfl, T.a_Club___eq__, T.i_Club___eq__⟩, T.fst_Club⟩ T.ne_Club T.ok_Club.hm) (pel_var (i := 0)) (pel_var (i := 1))))))) (pssl_one (psl_ret pel_bl)) pssl_nil)
  (pssl_cons (psl_expr (pel_meth0 T.cl_Club T.mt_Club_back Fn_Club_back (hr.mono (by decide)) T.b_Club_back dfl_nil (pel_var (i := 1))))
  (pssl_one (psl_expr (pel_meth0 T.cl_Club T.mt_Club_back Fn_Club_back (hr.mono (by decide)) T.b_Club_back dfl_nil (pel_var (i := 1)))))))))))))
  (pssl_cons (psl_for (passes_of rfl) rfl (pil_val (pel_slice sll_any (pel_callB (cl_sorted hr.units) rfl T.n_sorted (by decide +kernel) (pal_cons (pel_ix ixl_seq (pel_var (i := 2)) pel_int) pal_nil)) (pol_some (pel_un unl_neg pel_int)) pol_none)) (pgl_tup (n := 2) rfl (pgsl_cons (pgl_name (i := 4) sc__law_unlike_right.nd) (pgsl_cons (pgl_name (i := 5) sc__law_unlike_right.nd) pgsl_nil))) (pssl_cons (psl_expr (pel_meth T.cl_Club T.mt_Club_unbar Fn_Club_unbar (hr.mono (by decide)) T.b_Club_unbar dfl_nil (pel_var (i := 1)) (pal_cons (pel_var (i := 4)) (pal_cons (pel_var (i := 5)) pal_nil))))
  (pssl_cons (psl_if (PWL.pt (pwl_or (ptl_cmp (opl_ownEq ⟨⟨4, _, _, _, Fn_Club___eq__, hr.mono (by decide), T.b_Club___eq__, rfl, T.a_Club___eq__, T.i_Club___eq__⟩, T.fst_Club⟩) (pel_var (i := 0)) (pel_var (i := 1))) (pwl_or1 (ptl_not (ptl_cmp (opl_ownNe ⟨⟨4, _, _, _, Fn_Club___eq__, hr.mono (by decide), T.b_Club___eq__, rfl, T.a_Club___eq__, T.i_Club___eq__⟩, T.fst_Club⟩ T.ne_Club T.ok_Club.hm) (pel_var (i := 0)) (pel_var (i := 1))))))) (pssl_one (psl_ret pel_bl)) pssl_nil)
  (pssl_one (psl_expr (pel_meth0 T.cl_Club T.mt_Club_back Fn_Club_back (hr.mono (by decide)) T.b_Club_back dfl_nil (pel_var (i := 1))))))))
  (pssl_one (psl_ret (pel_and (pel_cmp (opl_ownEq ⟨⟨4, _, _, _, Fn_Club___eq__, hr.mono (by decide), T.b_Club___eq__, rfl, T.a_Club___eq__, T.i_Club___eq__⟩, T.fst_Club⟩) (pel_var (i := 0)) (pel_var (i := 1))) (pel_one (pel_not (pel_cmp (opl_ownNe ⟨⟨4, _, _, _, Fn_Club___eq__, hr.mono (by decide), T.b_Club___eq__, rfl, T.a_Club___eq__, T.i_Club___eq__⟩, T.fst_Club⟩ T.ne_Club T.ok_Club.hm) (pel_var (i := 0)) (pel_var (i := 1)))))))))), ?_⟩
  intro S c h c2 h2 q gp hist hist2 ns ha hb d1 d2 d3 d4 hn hgs h0 h1 hg2 hl2
  have hG := good_st hn hgs h0 h1
  have hG2 := good_cn hG
  have hgd := hG2.gm
  -- the question
  have ask : ∀ (ρ : Ev) (S : Sto) (q' : StP) (hi : List StP), ρ[0]? = some (some (.ref c)) → ρ[1]? = some (some (.ref c2)) → ClubAt T.C_Club c h S (cn q) gp hist → ClubAt T.C_Club c2 h2 S q' gp hi → GoodC q'.1 q'.2 gp → q' ≠ cn q →
      MP.tOr (tTru (lBin (gOwnEq T.C_Club (tsCl T.C_Club T.C_Circle) (gpCl T.C_Club T.C_Circle)) (lVar 0) (lVar 1))) (MP.tNot (tTru (lBin (gOwnNe T.C_Club (tsCl T.C_Club T.C_Circle) (gpCl T.C_Club T.C_Circle)) (lVar 0) (lVar 1)))) ρ S = .ok false S := fun ρ S q' hi r0 r1 a b hg hne => by
    have w0 : lVar 0 ρ S = .ok (.ref c) S := by unfold lVar; rw [r0]
    have w1 : lVar 1 ρ S = .ok (.ref c2) S := by unfold lVar; rw [r1]
    obtain ⟨z1, z2⟩ := eq_clubs (C2 := T.C_Circle) a hG2 b hg
    have hd : decide ((cn q, gp) = (q', gp)) = false := decide_eq_false fun z => hne (by injection z with z _; exact z.symm)
    rw [hd] at z1 z2
    exact or_ff (tru_b (bin_ok w0 w1 z1) rfl) (not_ok (b := true) (tru_b (bin_ok w0 w1 z2) rfl))
  have hok : ∀ {hi : List StP}, HG hi → hi.length ≤ 200 → HistOk hi := fun a b => ⟨b, a⟩
  -- one deed undone
  have undo : ∀ (S : Sto) (q' qb : StP) (hi : List StP), ClubAt T.C_Club c2 h2 S q' gp (hi ++ [qb]) → HG (hi ++ [qb]) → hi.length ≤ 150 → ∃ S', gk [.ref c2] S = .ok .non S' ∧ ClubAt T.C_Club c2 h2 S' qb gp hi ∧ Fr2 c2 h2 S S' := fun S q' qb hi a b l => (Sk S c2 h2 q' gp (hi ++ [qb]) a (hok b (by simp; omega))).2 hi qb rfl
  obtain ⟨ρ, hρ⟩ : ∃ ρ : Ev, ρ = [some (.ref c), some (.ref c2), some (sD q), none, none, none] := ⟨_, rfl⟩
  have hbk : ∀ (S : Sto) (q' : StP) (hi : List StP) (ρ : Ev) (S' : Sto), ρ[1]? = some (some (.ref c2)) → ClubAt T.C_Club c2 h2 S q' gp hi → gk [.ref c2] S = .ok .non S' → lExpr (lMeth T.C_Club "back" 1 gk [] (lVar 1) aNil) ρ S = .ok (.nx ρ) S' := fun S q' hi ρ S' r a e => expr_ok (meth_ok (d := .ref c2) (ds := []) (by unfold lVar; rw [r]) (recv_at2 a.at_ rfl) rfl rfl e)
  -- the first loop
  have hsort : ∀ S' : Sto, gSortedD S' [.dct false (kv2 q.1)] = some (.lst ((givs (cn q).1).map D.str)) := fun S' => by
    have e : (kv2 q.1).map (·.1) = (givs q.1).map D.str := kv2_keys q.1
    have hs := sorted_strs S' (.lst ((givs q.1).map D.str)) (givs q.1) rfl (by have := hG.lm; simp [givs]; omega)
    have hm : (givs q.1).mergeSort sle = givs (cn q).1 := sorted_of ((List.mergeSort_perm q.1 leP).map (fun p : Pr => p.1)) (sort_rise hgs.nd)
    rw [hm] at hs
    have hs2 : (if srtOk ((givs q.1).map D.str) = true then some (D.lst (((givs q.1).map D.str).mergeSort leD)) else none) = some (.lst ((givs (cn q).1).map D.str)) := hs
    show (if srtOk ((kv2 q.1).map (·.1)) = true then some (D.lst (((kv2 q.1).map (·.1)).mergeSort leD)) else none) = _
    rw [e]
    exact hs2
  have it1 : ∀ S' : Sto, lIter (lSlice gSlice (lCallB gSortedD (aCons (lBin gIx (lVar 2) (lC (.int 0))) aNil)) oNone (oSome (lC (.int 1)))) ρ S' = .ok ⟨((givs (cn q).1).map D.str).take 1, fun _ => True⟩ S' := fun S' => iter_ok (slice_ok (callb_ok (acons_ok (bin_ok (d := .dct false (kv2 q.1)) (by rw [hρ]; rfl) rfl rfl) rfl) (hsort S')) rfl (osome_ok rfl) rfl) (by
    show some (Its'.mk (MP.cutD ((givs (cn q).1).map D.str) none (some 1)) (fun _ => True)) = _
    rw [cut_take1])
  have it2 : ∀ S' : Sto, lIter (lSlice gSlice (lCallB gSorted (aCons (lBin gIx (lVar 2) (lC (.int 1))) aNil)) (oSome (lUn gNeg (lC (.int 1)))) oNone) ρ S' = .ok ⟨(psD (cn q).2).drop ((psD (cn q).2).length - 1), fun _ => True⟩ S' := fun S' => iter_ok (slice_ok (callb_ok (acons_ok (bin_ok (d := .lst (psD q.2)) (by rw [hρ]; rfl) rfl rfl) rfl) (gsort_ok (by have := hG.lb; omega))) (osome_ok (un_ok rfl rfl)) rfl rfl) (by
    show some (Its'.mk (MP.cutD (psD (cn q).2) (some (-1)) none) (fun _ => True)) = _
    rw [cut_last])
  have L1 : ∃ S1, forG ρ (fun _ => True) (gtName 3) (lSeq (lIfS (tTru (lBin gInD (lTup (aCons (lVar 3) (aCons (lVar 3) aNil))) (lBin gIx (lVar 2) (lC (.int 1))))) (lExpr (lMeth T.C_Club "unbar" 3 gu [] (lVar 1) (aCons (lVar 3) (aCons (lVar 3) aNil)))) (lExpr (lMeth T.C_Club "bar" 3 gb [] (lVar 1) (aCons (lVar 3) (aCons (lVar 3) aNil)))))
      (lSeq (lIfS (MP.tOr (tTru (lBin (gOwnEq T.C_Club (tsCl T.C_Club T.C_Circle) (gpCl T.C_Club T.C_Circle)) (lVar 0) (lVar 1))) (MP.tNot (tTru (lBin (gOwnNe T.C_Club (tsCl T.C_Club T.C_Circle) (gpCl T.C_Club T.C_Circle)) (lVar 0) (lVar 1))))) (lRet (lC (.bl false))) lNext)
      (lSeq (lExpr (lMeth T.C_Club "back" 1 gk [] (lVar 1) aNil))
      (lSeq (lExpr (lMeth T.C_Club "leave" 2 gl [] (lVar 1) (aCons (lVar 3) aNil)))
      (lSeq (lExpr (lMeth T.C_Club "join" 3 gj [] (lVar 1) (aCons (lVar 3) (aCons (lC (.str "elsewhere")) aNil))))
      (lSeq (lIfS (MP.tOr (tTru (lBin (gOwnEq T.C_Club (tsCl T.C_Club T.C_Circle) (gpCl T.C_Club T.C_Circle)) (lVar 0) (lVar 1))) (MP.tNot (tTru (lBin (gOwnNe T.C_Club (tsCl T.C_Club T.C_Circle) (gpCl T.C_Club T.C_Circle)) (lVar 0) (lVar 1))))) (lRet (lC (.bl false))) lNext)
      (lSeq (lExpr (lMeth T.C_Club "back" 1 gk [] (lVar 1) aNil)) (lExpr (lMeth T.C_Club "back" 1 gk [] (lVar 1) aNil))))))))) (((givs (cn q).1).map D.str).take 1) ρ S = .ok (.nx ρ) S1 ∧ ClubAt T.C_Club c2 h2 S1 (cn q) gp hist2 ∧ Fr2 c2 h2 S S1 := by
    cases hm : (cn q).1 with
    | nil => exact ⟨S, for_end trivial, hb, Fr2.refl⟩
    | cons p rest =>
      have hpm : p ∈ (cn q).1 := by rw [hm]; simp
      have hpn := (hgs.ms p (mem_sort.mp hpm)).1
      have hx : p.1 ∈ givs (cn q).1 := List.mem_map_of_mem (f := fun p : Pr => p.1) hpm
      have gpp : gdP (p.1, p.1) := ⟨(hn.nm _ hpn).1, .inr (hn.nm _ hpn).1⟩
      have pr1 : ∀ S', gInD S' (.tup [.str p.1, .str p.1]) (.lst (psD q.2)) = some (.bl (decide ((p.1, p.1) ∈ q.2))) := fun S' => (in_ps (p := (p.1, p.1)) gpp hG.gb (.inr rfl)).1
      let ρ1 : Ev := [some (.ref c), some (.ref c2), some (sD q), some (.str p.1), none, none]
      -- the bar
      obtain ⟨SA, qA, eA, aA, fA, gA, nA⟩ : ∃ SA qA, lIfS (tTru (lBin gInD (lTup (aCons (lVar 3) (aCons (lVar 3) aNil))) (lBin gIx (lVar 2) (lC (.int 1))))) (lExpr (lMeth T.C_Club "unbar" 3 gu [] (lVar 1) (aCons (lVar 3) (aCons (lVar 3) aNil)))) (lExpr (lMeth T.C_Club "bar" 3 gb [] (lVar 1) (aCons (lVar 3) (aCons (lVar 3) aNil)))) ρ1 S = .ok (.nx ρ1) SA ∧ ClubAt T.C_Club c2 h2 SA qA gp (hist2 ++ [cn q]) ∧ Fr2 c2 h2 S SA ∧ GoodC qA.1 qA.2 gp ∧ qA ≠ cn q := by
        by_cases hin : (p.1, p.1) ∈ q.2
        · obtain ⟨SA, b1, b2, b3⟩ := Su S c2 h2 (cn q) gp hist2 p.1 p.1 hb (by omega) hG2 (mem_sort.mpr hin)
          refine ⟨SA, _, if_tt (tru_b (bin_ok (tup_ok (acons_ok rfl (acons_ok rfl rfl)) (by simp)) (bin_ok (d := .lst (psD q.2)) rfl rfl rfl) (pr1 S)) (decide_eq_true hin)) (expr_ok (meth_ok (d := .ref c2) rfl (recv_at2 hb.at_ rfl) (acons_ok rfl (acons_ok rfl rfl)) rfl b1)), b2, b3, ⟨hG2.lm, hG2.nd, Nat.le_trans (List.length_filter_le _ _) hG2.lb, List.filter_sublist.nodup hG2.nb, hG2.gm, fun r hr => hG2.gb r (List.mem_filter.mp hr).1, h0, h1⟩, fun z => ?_⟩
          have : (p.1, p.1) ∈ woP (p.1, p.1) (cn q).2 := by
            have z2 := congrArg Prod.snd z
            dsimp only at z2
            rw [z2]
            exact mem_sort.mpr hin
          have := (List.mem_filter.mp this).2
          simp at this
        · obtain ⟨SA, b1, b2, b3⟩ := Sb S c2 h2 (cn q) gp hist2 p.1 p.1 hb (by omega) hG2 hx hx gpp (fun z => hin (mem_sort.mp z))
          have pm := List.mergeSort_perm ((cn q).2 ++ [(p.1, p.1)]) leP
          have hlq : (cn q).2.length ≤ 30 := by
            show (q.2.mergeSort leP).length ≤ 30
            rw [(List.mergeSort_perm q.2 leP).length_eq]
            exact hgs.lb
          refine ⟨SA, _, if_ff (tru_b (bin_ok (tup_ok (acons_ok rfl (acons_ok rfl rfl)) (by simp)) (bin_ok (d := .lst (psD q.2)) rfl rfl rfl) (pr1 S)) (decide_eq_false hin)) (expr_ok (meth_ok (d := .ref c2) rfl (recv_at2 hb.at_ rfl) (acons_ok rfl (acons_ok rfl rfl)) rfl b1)), b2, b3, ⟨hG2.lm, hG2.nd, ?_, ?_, hG2.gm, fun r hr => ?_, h0, h1⟩, fun z => ?_⟩
          · show (((cn q).2 ++ [(p.1, p.1)]).mergeSort leP).length ≤ 100
            rw [pm.length_eq]
            simp
            omega
          · refine pm.nodup_iff.mpr (List.nodup_append.mpr ⟨hG2.nb, by simp, fun a ha b hb => ?_⟩)
            rw [List.mem_singleton.mp hb]
            exact fun z => hin (mem_sort.mp (z ▸ ha))
          · rcases List.mem_append.mp (pm.mem_iff.mp hr) with hr | hr
            · exact hG2.gb r hr
            · rw [List.mem_singleton.mp hr]
              exact gpp
          · have z2 := congrArg Prod.snd z
            dsimp only at z2
            have : (p.1, p.1) ∈ ((cn q).2 ++ [(p.1, p.1)]).mergeSort leP := pm.mem_iff.mpr (by simp)
            rw [z2] at this
            exact hin (mem_sort.mp this)
      have haA := ha.fr fA d1 d2 d3 d4
      have hgA : HG (hist2 ++ [cn q]) := hg2.snoc hG2
      obtain ⟨SB, eB, aB, fB⟩ := undo SA qA (cn q) hist2 aA hgA (by omega)
      obtain ⟨SC, eC, aC, fC⟩ := Sl SB c2 h2 (cn q) gp hist2 p.1 aB (by omega) hG2 hx
      have gC := good_wo hG2 p.1
      have hxw : p.1 ∉ givs (wo p.1 (cn q).1) := fun z => by
        obtain ⟨r, hr, e⟩ := List.mem_map.mp z
        have := (List.mem_filter.mp hr).2
        rw [show r.1 = p.1 from e] at this
        simp at this
      obtain ⟨SD, eD, aD, fD⟩ := Sj SC c2 h2 (wo p.1 (cn q).1, (cn q).2) gp (hist2 ++ [cn q]) p.1 "elsewhere" aC (by simp; omega) (by have := gC.lm; show (wo p.1 (cn q).1).length ≤ 100; omega) hxw
      have hlw : (wo p.1 (cn q).1).length ≤ 29 := by
        have a1 : (wo p.1 (cn q).1).length < (cn q).1.length := by
          unfold wo
          refine List.length_filter_lt_length_iff_exists.mpr ⟨p, hpm, by simp⟩
        have := hG2.lm
        omega
      have pm := List.mergeSort_perm (wo p.1 (cn q).1 ++ [((p.1, "elsewhere") : Pr)]) leP
      have gD : GoodC ((wo p.1 (cn q).1 ++ [((p.1, "elsewhere") : Pr)]).mergeSort leP) (cn q).2 gp := by
        refine ⟨?_, ?_, hG2.lb, hG2.nb, fun r hr => ?_, hG2.gb, h0, h1⟩
        · rw [pm.length_eq]
          simp
          omega
        · refine (show (givs _).Nodup from (pm.map (fun p : Pr => p.1)).nodup_iff.mpr ?_)
          rw [List.map_append]
          refine List.nodup_append.mpr ⟨gC.nd, by simp, fun a ha b hb => ?_⟩
          rw [List.map_singleton, List.mem_singleton] at hb
          subst hb
          exact fun z => hxw (z ▸ ha)
        · rcases List.mem_append.mp (pm.mem_iff.mp hr) with hr | hr
          · exact gC.gm r hr
          · rw [List.mem_singleton.mp hr]
            exact ⟨(hn.nm _ hpn).1, .inr nm_else⟩
      have nD : (((wo p.1 (cn q).1 ++ [((p.1, "elsewhere") : Pr)]).mergeSort leP, (cn q).2) : StP) ≠ cn q := fun z => by
        have z2 := congrArg Prod.fst z
        dsimp only at z2
        have : ((p.1, "elsewhere") : Pr) ∈ (wo p.1 (cn q).1 ++ [((p.1, "elsewhere") : Pr)]).mergeSort leP := pm.mem_iff.mpr (by simp)
        rw [z2] at this
        exact hs_else hn (hgs.ms _ (mem_sort.mp this)).2
      have haD := ((haA.fr fB d1 d2 d3 d4).fr fC d1 d2 d3 d4).fr fD d1 d2 d3 d4
      have hgC : HG ((hist2 ++ [cn q]) ++ [(wo p.1 (cn q).1, (cn q).2)]) := hgA.snoc (q := (wo p.1 (cn q).1, (cn q).2)) gC
      obtain ⟨SE, eE, aE, fE⟩ := undo SD _ (wo p.1 (cn q).1, (cn q).2) (hist2 ++ [cn q]) aD hgC (by simp; omega)
      obtain ⟨SF, eF, aF, fF⟩ := undo SE _ (cn q) hist2 aE hgA (by omega)
      refine ⟨SF, for_go (ρ' := ρ1) trivial (by rw [hρ]; rfl) (seq_nx eA (seq_nx (if_ff (ask ρ1 SA qA _ rfl rfl haA aA gA nA) rfl) (seq_nx (hbk SA _ _ ρ1 SB rfl aA eB) (seq_nx (expr_ok (meth_ok (d := .ref c2) rfl (recv_at2 aB.at_ rfl) (acons_ok rfl rfl) rfl eC)) (seq_nx (expr_ok (meth_ok (d := .ref c2) rfl (recv_at2 aC.at_ rfl) (acons_ok rfl (acons_ok rfl rfl)) rfl eD)) (seq_nx (if_ff (ask ρ1 SD _ _ rfl rfl haD aD gD nD) rfl) (seq_nx (hbk SD _ _ ρ1 SE rfl aD eE) (hbk SE _ _ ρ1 SF rfl aE eF)))))))) (by rw [hρ]; exact for_end trivial), aF, ((((fA.trans fB).trans fC).trans fD).trans fE).trans fF⟩
  obtain ⟨S1, e1, a1, f1⟩ := L1
  have ha1 := ha.fr f1 d1 d2 d3 d4
  have L2_ : ∃ S2, forG ρ (fun _ => True) (gtTup 2 (gtCons (gtName 4) (gtCons (gtName 5) gtNil))) (lSeq (lExpr (lMeth T.C_Club "unbar" 3 gu [] (lVar 1) (aCons (lVar 4) (aCons (lVar 5) aNil))))
      (lSeq (lIfS (MP.tOr (tTru (lBin (gOwnEq T.C_Club (tsCl T.C_Club T.C_Circle) (gpCl T.C_Club T.C_Circle)) (lVar 0) (lVar 1))) (MP.tNot (tTru (lBin (gOwnNe T.C_Club (tsCl T.C_Club T.C_Circle) (gpCl T.C_Club T.C_Circle)) (lVar 0) (lVar 1))))) (lRet (lC (.bl false))) lNext) (lExpr (lMeth T.C_Club "back" 1 gk [] (lVar 1) aNil)))) ((psD (cn q).2).drop ((psD (cn q).2).length - 1)) ρ S1 = .ok (.nx ρ) S2 ∧ ClubAt T.C_Club c2 h2 S2 (cn q) gp hist2 ∧ Fr2 c2 h2 S1 S2 := by
    have hl : (psD (cn q).2).drop ((psD (cn q).2).length - 1) = [] ∨ ∃ r ∈ (cn q).2, (psD (cn q).2).drop ((psD (cn q).2).length - 1) = [pD r] := by
      rcases List.eq_nil_or_concat (cn q).2 with e | ⟨l, r, e⟩
      · left; rw [e]; rfl
      · right
        refine ⟨r, by rw [e]; simp, ?_⟩
        rw [e]
        unfold psD
        simp
    rcases hl with hl | ⟨r, hrm, hl⟩
    · rw [hl]
      exact ⟨S1, for_end trivial, a1, Fr2.refl⟩
    · rw [hl]
      obtain ⟨SA, b1, b2, b3⟩ := Su S1 c2 h2 (cn q) gp hist2 r.1 r.2 a1 (by omega) hG2 hrm
      have gA : GoodC (cn q).1 (woP (r.1, r.2) (cn q).2) gp := ⟨hG2.lm, hG2.nd, Nat.le_trans (List.length_filter_le _ _) hG2.lb, List.filter_sublist.nodup hG2.nb, hG2.gm, fun u hu => hG2.gb u (List.mem_filter.mp hu).1, h0, h1⟩
      have nA : (((cn q).1, woP (r.1, r.2) (cn q).2) : StP) ≠ cn q := fun z => by
        have z2 := congrArg Prod.snd z
        dsimp only at z2
        have : r ∈ woP (r.1, r.2) (cn q).2 := by rw [z2]; exact hrm
        have := (List.mem_filter.mp this).2
        simp at this
      obtain ⟨SB, eB, aB, fB⟩ := undo SA _ (cn q) hist2 b2 (hg2.snoc hG2) (by omega)
      refine ⟨SB, for_go (ρ' := [some (.ref c), some (.ref c2), some (sD q), none, some (.str r.1), some (.str r.2)]) trivial (by rw [hρ]; rfl) (seq_nx (expr_ok (meth_ok (d := .ref c2) rfl (recv_at2 a1.at_ rfl) (acons_ok rfl (acons_ok rfl rfl)) rfl b1)) (seq_nx (if_ff (ask _ SA _ _ rfl rfl (ha1.fr b3 d1 d2 d3 d4) b2 gA nA) rfl) (hbk SA _ _ _ SB rfl b2 eB))) (by rw [hρ]; exact for_end trivial), aB, b3.trans fB⟩
  obtain ⟨S2, e2, a2, f2⟩ := L2_
  have ha2 := ha1.fr f2 d1 d2 d3 d4
  obtain ⟨z1, z2⟩ := eq_clubs (C2 := T.C_Circle) ha2 hG2 a2 hG2
  rw [decide_eq_true rfl] at z1 z2
  refine ⟨S2, ?_, a2, f1.trans f2⟩
  have hv : [some (.ref c), some (.ref c2), some (sD q), none, none, none] = ρ := hρ.symm
  refine body_rt (seq_nx (ρ' := ρ) (S1 := S1) ?_ (seq_nx (ρ' := ρ) (S1 := S2) (for_ok (it2 S1) e2) (ret_ok (andv_tt (d := .bl true) (bin_ok (by rw [hρ]; rfl) (by rw [hρ]; rfl) z1) rfl (notv_ok (b := false) (bin_ok (by rw [hρ]; rfl) (by rw [hρ]; rfl) z2))))))
  show lFor _ _ _ [some (.ref c), some (.ref c2), some (sD q), none, none, none] S = _
  rw [hv]
  exact for_ok (it1 S) e1
end
end K61

namespace MP
open PySem PySem.Spec PyProof.Rows L2
/-- goes on, with what is known then -/
def Ex (l : LS) (ρ : Ev) (S : Sto) (Q : Ev → Sto → Prop) : Prop := ∃ ρ' S', l ρ S = .ok (.nx ρ') S' ∧ Q ρ' S'
theorem Ex.nx {l : LS} {ρ ρ' : Ev} {S S' : Sto} {Q : Ev → Sto → Prop} (h : l ρ S = .ok (.nx ρ') S') (q : Q ρ' S') : Ex l ρ S Q := ⟨ρ', S', h, q⟩
theorem Ex.seqn {l1 l2 : LS} {ρ ρ1 : Ev} {S S1 : Sto} {Q : Ev → Sto → Prop} (h : l1 ρ S = .ok (.nx ρ1) S1) (h2 : Ex l2 ρ1 S1 Q) : Ex (lSeq l1 l2) ρ S Q := by
  obtain ⟨ρ', S', e, q⟩ := h2
  exact ⟨ρ', S', seq_nx h e, q⟩
theorem Ex.seq {l1 l2 : LS} {ρ : Ev} {S : Sto} {M Q : Ev → Sto → Prop} (h : Ex l1 ρ S M) (h2 : ∀ ρ1 S1, M ρ1 S1 → Ex l2 ρ1 S1 Q) : Ex (lSeq l1 l2) ρ S Q := by
  obtain ⟨ρ', S', e, q⟩ := h
  exact .seqn e (h2 _ _ q)
theorem Ex.tt {tc : LT} {l1 l2 : LS} {ρ : Ev} {S S1 : Sto} {Q : Ev → Sto → Prop} (h : tc ρ S = .ok true S1) (h2 : Ex l1 ρ S1 Q) : Ex (lIfS tc l1 l2) ρ S Q := by
  obtain ⟨ρ', S', e, q⟩ := h2
  exact ⟨ρ', S', if_tt h e, q⟩
theorem Ex.ff {tc : LT} {l1 l2 : LS} {ρ : Ev} {S S1 : Sto} {Q : Ev → Sto → Prop} (h : tc ρ S = .ok false S1) (h2 : Ex l2 ρ S1 Q) : Ex (lIfS tc l1 l2) ρ S Q := by
  obtain ⟨ρ', S', e, q⟩ := h2
  exact ⟨ρ', S', if_ff h e, q⟩
theorem Ex.forL {li : LI} {g : GT} {lb : LS} {ρ : Ev} {S S1 : Sto} {it : Its'} {Q : Ev → Sto → Prop} (I : List D → Ev → Sto → Prop) (hit : li ρ S = .ok it S1) (hc : ∀ S, it.chk S) (h0 : I it.items ρ S1)
    (step : ∀ d ds ρ1 S1, I (d :: ds) ρ1 S1 → ∃ ρ2, g d ρ1 = some ρ2 ∧ Ex lb ρ2 S1 (fun ρ3 S3 => I ds (wk ρ ρ3) S3)) (hend : ∀ ρ1 S1, I [] ρ1 S1 → Q ρ1 S1) : Ex (lFor li g lb) ρ S Q := by
  have key : ∀ (ds : List D) (ρ1 : Ev) (S1 : Sto), I ds ρ1 S1 → ∃ ρ2 S2, forG ρ it.chk g lb ds ρ1 S1 = .ok (.nx ρ2) S2 ∧ I [] ρ2 S2 := by
    intro ds
    induction ds with
    | nil => exact fun ρ1 S1 h => ⟨ρ1, S1, for_end (hc S1), h⟩
    | cons d ds ih =>
      intro ρ1 S1 h
      obtain ⟨ρ2, e1, ρ3, S3, e2, h3⟩ := step d ds ρ1 S1 h
      obtain ⟨ρ4, S4, e4, h4⟩ := ih _ _ h3
      exact ⟨ρ4, S4, for_go (hc S1) e1 e2 e4, h4⟩
  obtain ⟨ρ2, S2, e, h⟩ := key _ _ _ h0
  exact ⟨ρ2, S2, for_ok hit e, hend _ _ h⟩
theorem Ex.ht {g : GT} {lb : LS} {d : D} {ρ ρ2 : Ev} {S : Sto} (h : g d ρ = some ρ2) (h2 : Ex lb ρ2 S fun ρ' _ => wk ρ ρ' = ρ) : ∃ ρ2 ρ' S', g d ρ = some ρ2 ∧ lb ρ2 S = .ok (.nx ρ') S' ∧ wk ρ ρ' = ρ := by
  obtain ⟨ρ', S', e, q⟩ := h2
  exact ⟨_, _, _, h, e, q⟩
theorem shell2 {n : Nat} {l2 : LS} {li : LI} {g : GT} {lb : LS} {ds : List D} {S : Sto} {it : Its'} {d : D} (h2 : li (ds.map some ++ List.replicate (n - ds.length) none) S = .ok it S) (hc : ∀ S, it.chk S)
    (ht : ∀ d ∈ it.items, ∀ S, ∃ ρ2 ρ' S', g d (ds.map some ++ List.replicate (n - ds.length) none) = some ρ2 ∧ lb ρ2 S = .ok (.nx ρ') S' ∧ wk (ds.map some ++ List.replicate (n - ds.length) none) ρ' = ds.map some ++ List.replicate (n - ds.length) none) (h3 : ∀ S, ∃ S', l2 (ds.map some ++ List.replicate (n - ds.length) none) S = .ok (.rt d) S') :
    ∃ S', bodyF n (lSeq (lFor li g lb) l2) ds S = .ok d S' := by
  have key : ∀ (items : List D) (S : Sto), (∀ d ∈ items, d ∈ it.items) → ∃ S', forG (ds.map some ++ List.replicate (n - ds.length) none) it.chk g lb items (ds.map some ++ List.replicate (n - ds.length) none) S = .ok (.nx (ds.map some ++ List.replicate (n - ds.length) none)) S' := by
    intro items
    induction items with
    | nil => exact fun S _ => ⟨S, for_end (hc S)⟩
    | cons d items ih =>
      intro S hm
      obtain ⟨ρ2, ρ', S1, h1, h2, h3⟩ := ht d (hm d (by simp)) S
      obtain ⟨S2, h5⟩ := ih S1 (fun d hd => hm d (by simp [hd]))
      exact ⟨S2, for_go (hc S) h1 h2 (by rw [h3]; exact h5)⟩
  obtain ⟨S2, e⟩ := key it.items S fun _ h => h
  obtain ⟨S3, e3⟩ := h3 S2
  exact ⟨S3, body_rt (seq_nx (for_ok h2 e) e3)⟩
theorem binN_ok {g : Sto → D → D → Option (List D)} {la lb : LE} {ρ : Ev} {S S1 S2 : Sto} {x y : D} {ds : List D} (h1 : la ρ S = .ok x S1) (h2 : lb ρ S1 = .ok y S2) (h3 : g S2 x y = some ds) : lBinN g la lb ρ S = .ok (.ref S2.length) (S2 ++ [.lst ds]) := by
  unfold lBinN; rw [h1, bind_ok, h2, bind_ok, h3]
theorem catN_ok {S : Sto} {s : Nat} {xs ys : List D} (h : S[s]? = some (.lst xs)) (hl : xs.length + ys.length ≤ 100000) : gCatN S (.ref s) (.lst ys) = some (xs ++ ys) := by
  unfold gCatN
  rw [K61.vref h]
  show (if xs.length + ys.length ≤ sizeLine then some (xs ++ ys) else none) = _
  rw [if_pos (K61.sz hl)]
theorem pop_ok {S : Sto} {s : Nat} {xs : List D} {y : D} (h : S[s]? = some (.lst (xs ++ [y]))) : stPop S (.ref s) [] = some (y, S.set s (.lst xs)) := by
  unfold stPop
  dsimp only
  rw [h]
  dsimp only
  rw [List.length_append, List.length_singleton, Nat.add_sub_cancel, List.getElem?_append_right (Nat.le_refl _), Nat.sub_self, List.dropLast_concat]
  rfl
theorem cut_init (xs : List D) (y : D) : cutD (xs ++ [y]) none (some (-1)) = xs := by
  unfold cutD
  have e : HT.sIx (xs ++ [y]).length (xs ++ [y]).length (some (-1)) = xs.length := by
    show (if (-1 : Int) < 0 then ((-1 : Int) + (((xs ++ [y]).length : Nat) : Int)).toNat else min (-1 : Int).toNat (xs ++ [y]).length) = _
    rw [if_pos (by decide), List.length_append, List.length_singleton]
    omega
  rw [e, HT.sIx_none, Nat.sub_zero, List.drop_zero, List.take_left']
  rfl
end MP
namespace K61
open PySem PySem.Spec PyProof.Rows L2 MP TL
open K59 (Pr nm givs taks slt isL lets nm_ok sle sorted_strs cnt_nodup slt_trans slt_irrefl)
/-! ### the law's walk -/
theorem last_sD {S : Sto} {s : Nat} {pre : List StP} {q : StP} (h : S[s]? = some (.lst ((pre ++ [q]).map sD))) : gIx S (.ref s) (.int (-1)) = some (sD q) := by
  refine ix_ref h ?_
  unfold atI ixN
  rw [if_neg (by decide), List.length_map, List.length_append, List.length_singleton, if_pos (by omega)]
  have e : ((-1 : Int) + ((pre.length + 1 : Nat) : Int)).toNat = pre.length := by omega
  show ((pre ++ [q]).map sD)[((-1 : Int) + ((pre.length + 1 : Nat) : Int)).toNat]? = _
  rw [e, List.getElem?_map, List.getElem?_append_right (Nat.le_refl _), Nat.sub_self]
  rfl
theorem len_at {S : Sto} {s : Nat} {xs : List D} (h : S[s]? = some (.lst xs)) : gLen S [.ref s] = some (.int (xs.length : Int)) := by
  unfold gLen
  dsimp only
  rw [vref h]
  rfl
theorem hist_ok {ns : List Str} {pre : List StP} {gp : Int} (hn : NamesOk ns) (h : ∀ q ∈ pre, GoodSt ns q) (h0 : 0 ≤ gp) (h1 : gp < 10 ^ 30) (hl : pre.length ≤ 200) : HistOk (pre.map cn) := by
  refine ⟨by rw [List.length_map]; exact hl, fun q hq => ?_⟩
  obtain ⟨q', hq', rfl⟩ := List.mem_map.mp hq
  have := good_cn (good_st hn (h q' hq') h0 h1)
  exact ⟨this.gm, this.gb⟩
theorem cn_nil : cn ([], []) = ([], []) := by unfold cn; simp
theorem nobody {ns : List Str} (hn : NamesOk ns) : ("nobodyatall" : Str) ∉ ns := fun h => absurd (hn.nm _ h).2 (by decide)
theorem sD_snoc (pre : List StP) (q : StP) : (pre ++ [q]).map sD = pre.map sD ++ [sD q] := by rw [List.map_append]; rfl
theorem dl_ne {q : StP} (h : q ≠ ([], [])) : ((kv2 q.1).isEmpty && (psD q.2).isEmpty) = false := by
  obtain ⟨a, b⟩ := q
  cases a with
  | nil =>
    cases b with
    | nil => exact absurd rfl h
    | cons x b => rfl
  | cons x a => rfl
theorem six {ns : List Str} {q : StP} (hn : NamesOk ns) (h : GoodSt ns q) : q.1.length ≤ 6 := by
  have := pigeon (givs q.1) ns h.nd fun x hx => by
    obtain ⟨p, hp, rfl⟩ := List.mem_map.mp hx
    exact (h.ms p hp).1
  have l := hn.len
  unfold givs at this
  rw [List.length_map] at this
  omega
theorem nob_good {ns : List Str} {q : StP} {gp : Int} (hn : NamesOk ns) (h : GoodSt ns q) (h0 : 0 ≤ gp) (h1 : gp < 10 ^ 30) : GoodC (((cn q).1 ++ [(("nobodyatall", "hut") : Pr)]).mergeSort leP) (cn q).2 gp ∧ ((((cn q).1 ++ [(("nobodyatall", "hut") : Pr)]).mergeSort leP, (cn q).2) : StP) ≠ cn q ∧ ("nobodyatall" : Str) ∉ givs (cn q).1 := by
  have g := good_st hn h h0 h1
  have g2 := good_cn g
  have pm := List.mergeSort_perm ((cn q).1 ++ [(("nobodyatall", "hut") : Pr)]) leP
  have h6 := six hn h
  have hl : (cn q).1.length = q.1.length := (List.mergeSort_perm q.1 leP).length_eq
  have hno : ("nobodyatall" : Str) ∉ givs (cn q).1 := fun z => by
    have z2 : ("nobodyatall" : Str) ∈ givs q.1 := givs_sort.mp z
    obtain ⟨p, hp, e⟩ := List.mem_map.mp z2
    exact nobody hn (e ▸ (h.ms p hp).1)
  refine ⟨⟨?_, ?_, g2.lb, g2.nb, fun r hr => ?_, g2.gb, h0, h1⟩, fun z => ?_, hno⟩
  · rw [pm.length_eq, List.length_append, List.length_singleton]
    omega
  · refine (show (givs _).Nodup from (pm.map (fun p : Pr => p.1)).nodup_iff.mpr ?_)
    rw [List.map_append]
    refine List.nodup_append.mpr ⟨g2.nd, by simp, fun a ha b hb => ?_⟩
    rw [List.map_singleton, List.mem_singleton] at hb
    subst hb
    exact fun z => hno (by rw [show ("nobodyatall" : Str) = a from z.symm]; exact ha)
  · rcases List.mem_append.mp (pm.mem_iff.mp hr) with hr | hr
    · exact g2.gm r hr
    · rw [List.mem_singleton.mp hr]
      exact ⟨by kernel_rfl, .inr (by kernel_rfl)⟩
  · have z2 := congrArg Prod.fst z
    dsimp only at z2
    have hm : (("nobodyatall", "hut") : Pr) ∈ ((cn q).1 ++ [(("nobodyatall", "hut") : Pr)]).mergeSort leP := pm.mem_iff.mpr (by simp)
    rw [z2] at hm
    exact hno (List.mem_map.mpr ⟨_, hm, rfl⟩)
def SLaw (g : F) : Prop := ∀ (zs : List Int), zs.length ≤ 63 → ∃ S', g [.lst (zs.map D.int)] [] = .ok (.bl true) S'
section
variable {P : Program} {w : World} {K : PySem.W.Frag} {mg : Str → Option Value} {base : Heap}
theorem ok_law (T : T61 K mg) : ∃ g, FnL P w K mg base 11 T.f_law T.fd_law ["_law_script"] g ∧ SLaw g := by
  obtain ⟨gpt, Fn__law_pot, Sp⟩ := ok_pot (P := P) (w := w) (base := base) T
  obtain ⟨gpk, Fn__law_pick, Sk⟩ := ok_pick (P := P) (w := w) (base := base) T
  obtain ⟨go, Fn__law_of, So⟩ := ok_of (P := P) (w := w) (base := base) T
  obtain ⟨gnm, Fn__law_names, Sn⟩ := ok_names (P := P) (w := w) (base := base) T
  obtain ⟨gdn, Fn__law_done, Sd⟩ := ok_done (P := P) (w := w) (base := base) T
  obtain ⟨grt, Fn__law_right, Sr⟩ := ok_right (P := P) (w := w) (base := base) T
  obtain ⟨grf, Fn__law_refused, Sf⟩ := ok_refused (P := P) (w := w) (base := base) T
  obtain ⟨gby, Fn__law_by_others, Sb⟩ := ok_by (P := P) (w := w) (base := base) T
  obtain ⟨gul, Fn__law_unlike_right, Su⟩ := ok_unl (P := P) (w := w) (base := base) T
  obtain ⟨gbk, Fn_Club_back, Sbk⟩ := ok_back (P := P) (w := w) (base := base) T
  obtain ⟨gjn, Fn_Club_join, Sj⟩ := ok_join (P := P) (w := w) (base := base) T
  obtain ⟨gci, Fn_Club_circle, Sc⟩ := ok_circ (P := P) (w := w) (base := base) T
  obtain ⟨g_Club___init__, Fn_Club___init__, Sw⟩ := ok_kinit (P := P) (w := w) (base := base) T
  have Fn_Club___eq__ := ok_keq (P := P) (w := w) (base := base) T
  have Fn_Club___str__ := ok_kstr (P := P) (w := w) (base := base) T
  obtain ⟨dsK, dK0, bK0⟩ := T.dK0
  refine ⟨_, Fun.okL T.F_law sc_law fun cdv A outer s H E hr =>
(pssl_cons (psl_for (passes_of rfl) rfl (pil_range1 rfl T.n_range (pal_cons (pel_callB (cl_max2 rfl) rfl T.n_max (by decide +kernel) (pal_cons pel_int (pal_cons (pel_callB (cl_min2 rfl) rfl T.n_min (by decide +kernel) (pal_cons pel_int (pal_cons (pel_callB (cl_len) rfl T.n_len (by decide +kernel) (pal_cons (pel_var (i := 0)) pal_nil)) pal_nil))) pal_nil))) pal_nil)) (pgl_name (i := 1) sc_law.nd) (pssl_cons (psl_set (i := 2) sc_law.nd (pel_call Fn__law_pot (hr.mono (by decide)) rfl T.mg__law_pot T.F__law_pot.kp T.b__law_pot dfl_nil (pal_cons (pel_var (i := 0)) (pal_cons (pel_var (i := 1)) pal_nil))))
  (pssl_cons (psl_par (i := 3) (j := 4) rfl sc_law.nd (pal_cons (pel_call Fn__law_names (hr.mono (by decide)) rfl T.mg__law_names T.F__law_names.kp T.b__law_names dfl_nil (pal_cons (pel_var (i := 2)) (pal_cons pel_int pal_nil))) (pal_cons (pel_call Fn__law_of (hr.mono (by decide)) rfl T.mg__law_of T.F__law_of.kp T.b__law_of dfl_nil (pal_cons (pel_var (i := 2)) (pal_cons (pel_lst (pal_cons pel_int (pal_cons pel_int (pal_cons pel_int (pal_cons (pel_op opl_add2 (pel_op opl_pow pel_int pel_int) (pel_call Fn__law_pick (hr.mono (by decide)) rfl T.mg__law_pick T.F__law_pick.kp T.b__law_pick dfl_nil (pal_cons (pel_var (i := 2)) (pal_cons pel_int pal_nil)))) pal_nil))))) pal_nil))) pal_nil)))
  (pssl_cons (psl_asg (pel_tup (pal_cons (pel_ifExp (ptl_cmp (opl_eq hr.units) (pel_var (i := 4)) pel_int) (pel_make0 T.mk_Club Fn_Club___init__ (hr.mono (by decide)) rfl T.mg_Club bK0 dK0) (pel_make (n := 1) T.mk_Club Fn_Club___init__ (gn := mkF T.C_Club g_Club___init__) (fun _ _ => .refl _) (hr.mono (by decide)) rfl T.mg_Club T.bK dfl_nil (pal_cons (pel_var (i := 4)) pal_nil))) (pal_cons (pel_lstN (pal_cons (pel_tup (pal_cons pel_dctK (pal_cons (pel_lst pal_nil) pal_nil))) pal_nil)) pal_nil))) (pgl_tup (n := 2) rfl (pgsl_cons (pgl_name (i := 5) sc_law.nd) (pgsl_cons (pgl_name (i := 6) sc_law.nd) pgsl_nil))))
  (pssl_cons (psl_set (i := 7) sc_law.nd (pel_lst (pal_cons (pel_call Fn__law_pick (hr.mono (by decide)) rfl T.mg__law_pick T.F__law_pick.kp T.b__law_pick dfl_nil (pal_cons (pel_var (i := 2)) (pal_cons pel_int pal_nil))) (pal_cons (pel_op opl_add2 pel_int (pel_call Fn__law_pick (hr.mono (by decide)) rfl T.mg__law_pick T.F__law_pick.kp T.b__law_pick dfl_nil (pal_cons (pel_var (i := 2)) (pal_cons pel_int pal_nil)))) pal_nil))))
  (pssl_cons (psl_for (passes_of rfl) rfl (pil_range1 rfl T.n_range (pal_cons (pel_ix ixl_seq (pel_var (i := 7)) (pel_callTy (cl_int1) rfl T.n_int (by decide +kernel) (pal_cons (pel_cmp (opl_eq hr.units) (pel_call Fn__law_pick (hr.mono (by decide)) rfl T.mg__law_pick T.F__law_pick.kp T.b__law_pick dfl_nil (pal_cons (pel_var (i := 2)) (pal_cons pel_int pal_nil))) pel_int) pal_nil))) pal_nil)) (pgl_name (i := 8) sc_law.nd) (pssl_cons (psl_if (PWL.pt (pwl_and (ptl_cmp (opl_eq hr.units) (pel_call Fn__law_pick (hr.mono (by decide)) rfl T.mg__law_pick T.F__law_pick.kp T.b__law_pick dfl_nil (pal_cons (pel_var (i := 2)) (pal_cons pel_int pal_nil))) pel_int) (pwl_and1 (ptl_cmp opl_gt2 (pel_callB (cl_len) rfl T.n_len (by decide +kernel) (pal_cons (pel_var (i := 6)) pal_nil)) pel_int)))) (pssl_cons (psl_expr (pel_pop (pel_var (i := 6))))
  (pssl_one (psl_if (ptl_cmp opl_notN (pel_meth0 T.cl_Club T.mt_Club_back Fn_Club_back (hr.mono (by decide)) T.b_Club_back dfl_nil (pel_var (i := 5))) pel_non) (pssl_one (psl_ret pel_bl)) pssl_nil))) (pssl_cons (psl_set (i := 9) sc_law.nd (pel_call Fn__law_done (hr.mono (by decide)) rfl T.mg__law_done T.F__law_done.kp T.b__law_done dfl_nil (pal_cons (pel_var (i := 2)) (pal_cons (pel_var (i := 5)) (pal_cons (pel_ix ixl_seq (pel_var (i := 6)) (pel_un unl_neg pel_int)) (pal_cons (pel_var (i := 3)) pal_nil))))))
  (pssl_cons (psl_if (PWL.pt (pwl_and (ptl_cmp opl_notN (pel_var (i := 9)) pel_non) (pwl_and1 (ptl_cmp opl_notN (pel_ix ixl_seq (pel_var (i := 9)) pel_int) pel_non)))) (pssl_one (psl_ret pel_bl)) pssl_nil)
  (pssl_one (psl_set (i := 6) sc_law.nd (pel_opN opn_cat (pel_var (i := 6)) (pel_ifExp (ptl_cmp opl_notN (pel_var (i := 9)) pel_non) (pel_lst (pal_cons (pel_ix ixl_seq (pel_var (i := 9)) pel_int) pal_nil)) (pel_lst pal_nil))))))))
  (pssl_one (psl_if (PWL.pt (pwl_or (ptl_not (ptl_truth (pel_call Fn__law_right (hr.mono (by decide)) rfl T.mg__law_right T.F__law_right.kp T.b__law_right dfl_nil (pal_cons (pel_var (i := 5)) (pal_cons (pel_ix ixl_seq (pel_var (i := 6)) (pel_un unl_neg pel_int)) (pal_cons (pel_var (i := 4)) pal_nil)))))) (pwl_or1 (ptl_not (ptl_truth (pel_call Fn__law_refused (hr.mono (by decide)) rfl T.mg__law_refused T.F__law_refused.kp T.b__law_refused dfl_nil (pal_cons (pel_var (i := 5)) (pal_cons pel_int pal_nil)))))))) (pssl_one (psl_ret pel_bl)) pssl_nil))))
  (pssl_cons (psl_set (i := 10) sc_law.nd (pel_call Fn__law_by_others (hr.mono (by decide)) rfl T.mg__law_by_others T.F__law_by_others.kp T.b__law_by_others dfl_nil (pal_cons (pel_ix ixl_seq (pel_var (i := 6)) (pel_un unl_neg pel_int)) (pal_cons (pel_var (i := 3)) (pal_cons (pel_var (i := 4)) pal_nil)))))
  (pssl_cons (psl_if (PWL.pt (pwl_or (ptl_cmp (opl_ownNe ⟨⟨4, _, _, _, Fn_Club___eq__, hr.mono (by decide), T.b_Club___eq__, rfl, T.a_Club___eq__, T.i_Club___eq__⟩, T.fst_Club⟩ T.ne_Club T.ok_Club.hm) (pel_var (i := 5)) (pel_var (i := 10))) (pwl_or (ptl_not (ptl_cmp (opl_ownEq ⟨⟨4, _, _, _, Fn_Club___eq__, hr.mono (by decide), T.b_Club___eq__, rfl, T.a_Club___eq__, T.i_Club___eq__⟩, T.fst_Club⟩) (pel_var (i := 5)) (pel_var (i := 10)))) (pwl_or1 (ptl_not (ptl_truth (pel_call Fn__law_right (hr.mono (by decide)) rfl T.mg__law_right T.F__law_right.kp T.b__law_right dfl_nil (pal_cons (pel_var (i := 10)) (pal_cons (pel_ix ixl_seq (pel_var (i := 6)) (pel_un unl_neg pel_int)) (pal_cons (pel_var (i := 4)) pal_nil)))))))))) (pssl_one (psl_ret pel_bl)) pssl_nil)
  (pssl_cons (psl_if (ptl_not (ptl_truth (pel_call Fn__law_unlike_right (hr.mono (by decide)) rfl T.mg__law_unlike_right T.F__law_unlike_right.kp T.b__law_unlike_right dfl_nil (pal_cons (pel_var (i := 5)) (pal_cons (pel_var (i := 10)) (pal_cons (pel_ix ixl_seq (pel_var (i := 6)) (pel_un unl_neg pel_int)) pal_nil)))))) (pssl_one (psl_ret pel_bl)) pssl_nil)
  (pssl_cons (psl_if (ptl_truth (pel_callB (cl_any rfl) rfl T.n_any (by decide +kernel) (pal_cons (pel_lc (own := [("_law_thing", 11)]) rfl sc_law.nd (pil_val (pel_tup (pal_cons pel_non (pal_cons (pel_callTy (cl_strO ⟨⟨6, _, _, _, Fn_Club___str__, hr.mono (by decide), T.b_Club___str__, rfl, T.a_Club___str__, T.i_Club___str__⟩⟩) rfl T.n_str (by decide +kernel) (pal_cons (pel_var (i := 5)) pal_nil)) (pal_cons (pel_meth0 T.cl_Club T.mt_Club_circle Fn_Club_circle (hr.mono (by decide)) T.b_Club_circle dfl_nil (pel_var (i := 5))) (pal_cons pel_int (pal_cons (pel_tup pal_nil) pal_nil))))))) (blkOk_by (N := N_law) (sc := defScope s_law) (by decide +kernel)) (fun _ _ _ _ _ => (pgl_name (i := 11) sc_law.nd)) (fun _ _ _ _ _ => ptsl_nil) (fun _ _ _ _ _ => (pel_or (pel_cmp (opl_ownEq ⟨⟨4, _, _, _, Fn_Club___eq__, hr.mono (by decide), T.b_Club___eq__, rfl, T.a_Club___eq__, T.i_Club___eq__⟩, T.fst_Club⟩) (pel_var (i := 5)) (pel_var (i := 11))) (pel_one (pel_not (pel_cmp (opl_ownNe ⟨⟨4, _, _, _, Fn_Club___eq__, hr.mono (by decide), T.b_Club___eq__, rfl, T.a_Club___eq__, T.i_Club___eq__⟩, T.fst_Club⟩ T.ne_Club T.ok_Club.hm) (pel_var (i := 5)) (pel_var (i := 11)))))))) pal_nil))) (pssl_one (psl_ret pel_bl)) pssl_nil)
  (pssl_cons (psl_expr (pel_meth T.cl_Club T.mt_Club_join Fn_Club_join (hr.mono (by decide)) T.bJ2 dfl_nil (pel_var (i := 10)) (pal_cons pel_str (pal_cons pel_str pal_nil))))
  (pssl_cons (psl_if (PWL.pt (pwl_or (ptl_cmp (opl_ownEq ⟨⟨4, _, _, _, Fn_Club___eq__, hr.mono (by decide), T.b_Club___eq__, rfl, T.a_Club___eq__, T.i_Club___eq__⟩, T.fst_Club⟩) (pel_var (i := 5)) (pel_var (i := 10))) (pwl_or (ptl_not (ptl_cmp (opl_ownNe ⟨⟨4, _, _, _, Fn_Club___eq__, hr.mono (by decide), T.b_Club___eq__, rfl, T.a_Club___eq__, T.i_Club___eq__⟩, T.fst_Club⟩ T.ne_Club T.ok_Club.hm) (pel_var (i := 5)) (pel_var (i := 10)))) (pwl_or1 (PWL.pt (pwl_and (ptl_cmp (opl_ownNe ⟨⟨4, _, _, _, Fn_Club___eq__, hr.mono (by decide), T.b_Club___eq__, rfl, T.a_Club___eq__, T.i_Club___eq__⟩, T.fst_Club⟩ T.ne_Club T.ok_Club.hm) (pel_var (i := 5)) (pel_make (n := 1) T.mk_Club Fn_Club___init__ (gn := mkF T.C_Club g_Club___init__) (fun _ _ => .refl _) (hr.mono (by decide)) rfl T.mg_Club T.bK dfl_nil (pal_cons (pel_var (i := 4)) pal_nil))) (pwl_and1 (ptl_cmp (opl_eqDL hr.units65) (pel_ix ixl_seq (pel_var (i := 6)) (pel_un unl_neg pel_int)) (pel_tup (pal_cons pel_dctK (pal_cons (pel_lst pal_nil) pal_nil))))))))))) (pssl_one (psl_ret pel_bl)) pssl_nil)
  (pssl_cons (psl_for (passes_of rfl) rfl (pil_val (pel_rev (pel_slice sll_any (pel_var (i := 6)) pol_none (pol_some (pel_un unl_neg pel_int))))) (pgl_name (i := 12) sc_law.nd) (pssl_one (psl_if (PWL.pt (pwl_or (ptl_truth (pel_call Fn__law_refused (hr.mono (by decide)) rfl T.mg__law_refused T.F__law_refused.kp T.b__law_refused dfl_nil (pal_cons (pel_var (i := 5)) (pal_cons pel_int pal_nil)))) (pwl_or1 (ptl_not (ptl_truth (pel_call Fn__law_right (hr.mono (by decide)) rfl T.mg__law_right T.F__law_right.kp T.b__law_right dfl_nil (pal_cons (pel_var (i := 5)) (pal_cons (pel_var (i := 12)) (pal_cons (pel_var (i := 4)) pal_nil))))))))) (pssl_one (psl_ret pel_bl)) pssl_nil)))
  (pssl_one (psl_if (PWL.pt (pwl_or (ptl_not (ptl_truth (pel_call Fn__law_refused (hr.mono (by decide)) rfl T.mg__law_refused T.F__law_refused.kp T.b__law_refused dfl_nil (pal_cons (pel_var (i := 5)) (pal_cons pel_int pal_nil))))) (pwl_or1 (ptl_not (ptl_truth (pel_call Fn__law_right (hr.mono (by decide)) rfl T.mg__law_right T.F__law_right.kp T.b__law_right dfl_nil (pal_cons (pel_var (i := 5)) (pal_cons (pel_tup (pal_cons pel_dctK (pal_cons (pel_lst pal_nil) pal_nil))) (pal_cons (pel_var (i := 4)) pal_nil))))))))) (pssl_one (psl_ret pel_bl)) pssl_nil)))))))))))))))
  (pssl_one (psl_ret pel_bl))), ?_⟩
  intro zs hzs
  refine shell2 (it := ⟨(List.range (if (if (zs.length : Int) < 2 then (zs.length : Int) else 2) > 1 then (if (zs.length : Int) < 2 then (zs.length : Int) else 2) else 1).toNat).map fun (i : Nat) => D.int (i : Int), fun _ => True⟩) ?hr (fun _ => trivial) ?ht ?h3
  case hr =>
    have hl : gLen [] [.lst (zs.map D.int)] = some (.int (zs.length : Int)) := by
      show some (D.int ((zs.map D.int).length : Int)) = _
      rw [List.length_map]
    have h1 : gMin2 [] [.int 2, .int (zs.length : Int)] = some (.int (if (zs.length : Int) < 2 then (zs.length : Int) else 2)) := rfl
    have h2 : gMax2 [] [.int 1, .int (if (zs.length : Int) < 2 then (zs.length : Int) else 2)] = some (.int (if (if (zs.length : Int) < 2 then (zs.length : Int) else 2) > 1 then (if (zs.length : Int) < 2 then (zs.length : Int) else 2) else 1)) := rfl
    refine range_okN (acons_ok (callb_ok (acons_ok rfl (acons_ok (callb_ok (acons_ok rfl (acons_ok (callb_ok (acons_ok rfl rfl) hl) rfl)) h1) rfl)) h2) rfl) ?_ ?_
    · split <;> split <;> omega
    · split <;> split <;> omega
  case h3 => exact fun S => ⟨S, ret_ok rfl⟩
  case ht =>
    intro d hd S
    obtain ⟨k, hk, rfl⟩ := List.mem_map.mp hd
    have hk7 : k ≤ 7 := by
      have := List.mem_range.mp hk
      split at this <;> split at this <;> omega
    obtain ⟨S1, e2, p2, l2, t2⟩ := Sp S zs (k : Int) hzs (by omega) (by omega)
    obtain ⟨j, hj⟩ : ∃ j, j = S.length := ⟨_, rfl⟩
    rw [← hj] at p2 e2
    obtain ⟨ns, S2, e3, hns, p3, k3⟩ := Sn 0 S1 j p2 (by decide)
    obtain ⟨v9, S3, e4, v90, v91, p4, k4⟩ := Sk _ S2 j 9 p3 (by decide) (by decide) (by decide)
    have h29 : (10 : Int) ^ (29 : Int).toNat = 100000000000000000000000000000 := by decide
    have hpow : gPow S2 (.int 10) (.int 29) = some (.int (10 ^ (29 : Int).toNat)) := pow_ii (by decide)
    obtain ⟨_, S4, e5, ⟨gp, ⟨hg0, hg1⟩, rfl⟩, p5, k5⟩ := So _ S3 j (.lst [.int 0, .int 1, .int 2, .int (10 ^ (29 : Int).toNat + v9)]) 4 (fun d => ∃ gp : Int, (0 ≤ gp ∧ gp < 10 ^ 30) ∧ d = .int gp) p4 (by decide) rfl (by decide) (by decide) fun S' v _ v0 v1 => by
      have hv : v.toNat < 4 := by omega
      have e : ((v.toNat : Nat) : Int) = v := by omega
      rw [← e]
      generalize v.toNat = m at hv
      match m, hv with
      | 0, _ => exact ⟨_, rfl, 0, by decide, rfl⟩
      | 1, _ => exact ⟨_, rfl, 1, by decide, rfl⟩
      | 2, _ => exact ⟨_, rfl, 2, by decide, rfl⟩
      | 3, _ => exact ⟨_, rfl, 10 ^ (29 : Int).toNat + v9, by rw [h29]; omega, rfl⟩
    obtain ⟨c, hc⟩ : ∃ c, c = S4.length := ⟨_, rfl⟩
    have hjc : j < c := by rw [hc]; exact p5.lt
    have e6 := Sw S4 gp
    rw [← hc] at e6
    obtain ⟨S5, hS5⟩ : ∃ S5, S5 = S4 ++ [O.ins T.C_Club (clFs [] [] gp (c + 1)), .lst []] := ⟨_, rfl⟩
    rw [← hS5] at e6
    have hl5 : S5.length = c + 2 := by rw [hS5, hc]; simp
    obtain ⟨S6, hS6⟩ : ∃ S6, S6 = S5 ++ [O.lst ([([], [])].map sD)] := ⟨_, rfl⟩
    have ha6 : ClubAt T.C_Club c (c + 1) S6 (cn ([], [])) gp ([].map cn) := by
      rw [hS6, hS5, cn_nil]
      refine ⟨?_, ?_, by omega⟩
      · rw [List.getElem?_append_left (by simp [hc]), List.getElem?_append_right (by omega), hc, Nat.sub_self]; rfl
      · rw [List.getElem?_append_left (by simp [hc]), List.getElem?_append_right (by omega), show c + 1 - S4.length = 1 by omega]; rfl
    have hs6 : S6[c + 2]? = some (.lst (([] ++ [([], [])] : List StP).map sD)) := by rw [hS6, ← hl5]; simp
    have p6 : PotAt j 50 S6 := by
      have : PotAt j 50 S4 := p5.mono (by omega)
      rw [hS6, hS5]
      rw [show S4 ++ [O.ins T.C_Club (clFs [] [] gp (c + 1)), .lst []] = S4 ++ [O.ins T.C_Club (clFs [] [] gp (c + 1))] ++ [.lst []] by simp]
      exact this.push.push.push
    obtain ⟨m1, S7, e7, m10, m11, p7, k7⟩ := Sk _ S6 j 21 p6 (by decide) (by decide) (by decide)
    obtain ⟨m2, S8, e8, m20, m21, p8, k8⟩ := Sk _ S7 j 21 p7 (by decide) (by decide) (by decide)
    obtain ⟨m3, S9, e9, m30, m31, p9, k9⟩ := Sk _ S8 j 8 p8 (by decide) (by decide) (by decide)
    have kk := (k7.trans k8).trans k9
    have ha9 := ha6.keep kk (by omega) (by omega)
    have hs9 := kk.get hs6 (by omega)
    obtain ⟨m, hm0, hm1, hmx⟩ : ∃ m : Int, 0 ≤ m ∧ m ≤ 60 ∧ ∀ S', gIx S' (.lst [.int m1, .int (40 + m2)]) (.int (if decide (m3 = 0) = true then 1 else 0)) = some (.int m) := by
      by_cases hb : m3 = 0
      · exact ⟨40 + m2, by omega, by omega, fun S' => by rw [decide_eq_true hb]; rfl⟩
      · exact ⟨m1, by omega, by omega, fun S' => by rw [decide_eq_false hb]; rfl⟩
    let R : Nat → Ev := fun s => [some (.lst (zs.map D.int)), some (.int (k : Int)), some (.ref j), some (.lst (ns.map D.str)), some (.int gp), some (.ref c), some (.ref s), some (.lst [.int m1, .int (40 + m2)]), none, none, none, none, none]
    let I : List D → Ev → Sto → Prop := fun ds ρ S' => ∃ (s : Nat) (pre : List StP) (last : StP) (n : Int), ρ = R s ∧ PotAt j n S' ∧ n + 20 * (ds.length : Int) ≤ 5000 ∧ S'[s]? = some (.lst ((pre ++ [last]).map sD)) ∧ s ≠ j ∧ s ≠ c ∧ s ≠ c + 1 ∧
      (∀ q ∈ pre ++ [last], GoodSt ns q) ∧ pre.length + ds.length ≤ 60 ∧ (∃ r, pre ++ [last] = ([], []) :: r) ∧ ClubAt T.C_Club c (c + 1) S' (cn last) gp (pre.map cn)
    have eqc : ∀ (S' : Sto) (q q' : StP) (c2 h2 : Nat) (hi hi2 : List StP), ClubAt T.C_Club c (c + 1) S' q gp hi → ClubAt T.C_Club c2 h2 S' q' gp hi2 → GoodC q.1 q.2 gp → GoodC q'.1 q'.2 gp → gOwnEq T.C_Club (tsCl T.C_Club T.C_Circle) (gpCl T.C_Club T.C_Circle) S' (.ref c) (.ref c2) = some (.bl (decide (q = q'))) ∧ gOwnNe T.C_Club (tsCl T.C_Club T.C_Circle) (gpCl T.C_Club T.C_Circle) S' (.ref c) (.ref c2) = some (.bl (!decide (q = q'))) := fun S' q q' c2 h2 hi hi2 a b g1 g2 => by
      have := eq_clubs (C2 := T.C_Circle) a g1 b g2
      have e : decide ((q, gp) = (q', gp)) = decide (q = q') := decide_eq_decide.mpr ⟨fun z => by injection z, fun z => by rw [z]⟩
      rw [e] at this
      exact this
    refine Ex.ht rfl (Ex.seqn (set_ok (d := .ref j) (call_ok (acons_ok rfl (acons_ok rfl rfl)) rfl e2)) ?_)
    refine Ex.seqn (par_ok (acons_ok (call_ok (acons_ok rfl (acons_ok rfl rfl)) rfl e3) (acons_ok (call_ok (acons_ok rfl (acons_ok (lst_ok (acons_ok rfl (acons_ok rfl (acons_ok rfl (acons_ok (bin_ok (bin_ok rfl rfl hpow) (call_ok (acons_ok rfl (acons_ok rfl rfl)) rfl e4) add2_ii) rfl)))) (by simp)) rfl)) rfl e5) rfl))) ?_
    refine Ex.seqn (asg_ok (d := .tup [.ref c, .ref (c + 2)]) (S1 := S6) (tup_ok (acons_ok (d := .ref c) (S1 := S5) (by
        by_cases hb : gp = 1
        · refine ife_tt (tru_b (bin_ok rfl rfl eq_ii) (decide_eq_true hb)) ?_
          rw [hb] at e6
          exact call_ok rfl rfl e6
        · exact ife_ff (tru_b (bin_ok rfl rfl eq_ii) (decide_eq_false hb)) (call_ok (acons_ok rfl rfl) rfl e6)) (acons_ok (d := .ref (c + 2)) (S1 := S6) (by
        rw [hS6, ← hl5]
        exact lstN_ok (acons_ok (tup_ok (acons_ok rfl (acons_ok (lst_ok rfl (Nat.zero_le _)) rfl)) (by simp)) rfl) (by simp)) rfl)) (by simp)) rfl) ?_
    refine Ex.seqn (set_ok (lst_ok (acons_ok (call_ok (acons_ok rfl (acons_ok rfl rfl)) rfl e7) (acons_ok (bin_ok rfl (call_ok (acons_ok rfl (acons_ok rfl rfl)) rfl e8) add2_ii) rfl)) (by simp))) ?_
    have big : (5000 : Int) < 10 ^ 28 := by decide
    let J : List D → D → Ev → Sto → Prop := fun ds d ρ S' => ∃ (s : Nat) (pre : List StP) (last : StP) (n : Int) (o : Option D), ρ = [some (.lst (zs.map D.int)), some (.int (k : Int)), some (.ref j), some (.lst (ns.map D.str)), some (.int gp), some (.ref c), some (.ref s), some (.lst [.int m1, .int (40 + m2)]), some d, o, none, none, none] ∧ PotAt j n S' ∧ n + 20 * (ds.length : Int) ≤ 5000 ∧ S'[s]? = some (.lst ((pre ++ [last]).map sD)) ∧ s ≠ j ∧ s ≠ c ∧ s ≠ c + 1 ∧
      (∀ q ∈ pre ++ [last], GoodSt ns q) ∧ pre.length + ds.length ≤ 60 ∧ (∃ r, pre ++ [last] = ([], []) :: r) ∧ ClubAt T.C_Club c (c + 1) S' (cn last) gp (pre.map cn)
    refine Ex.seq (M := fun ρ S' => I [] ρ S') (Ex.forL I (range_okN (acons_ok (bin_ok rfl (callb_ok (acons_ok (bin_ok (call_ok (acons_ok rfl (acons_ok rfl rfl)) rfl e9) rfl eq_ii) rfl) rfl) (hmx _)) rfl) hm0 (by omega)) (fun _ => trivial)
      ⟨c + 2, [], ([], []), 60, rfl, p9.mono (by omega), by simp only [List.length_map, List.length_range]; omega, hs9, by omega, by omega, by omega, fun q hq => by
        rw [List.nil_append, List.mem_singleton] at hq
        rw [hq]
        exact good_nil ns, by simp only [List.length_map, List.length_range, List.length_nil]; omega, ⟨[], rfl⟩, ha9⟩ ?step (fun _ _ h => h)) ?after
    case step =>
      rintro d ds _ SA ⟨s, pre, last, n, rfl, hp, hn, hs, hsj, hsc, hsh, hgs, hlen, hfst, ha⟩
      simp only [List.length_cons] at hn hlen
      refine ⟨_, rfl, ?_⟩
      have hgp : ∀ q ∈ pre, GoodSt ns q := fun q hq => hgs q (List.mem_append_left _ hq)
      have hgl := hgs last (by simp)
      have hk := hist_ok hns hgp hg0 hg1 (by omega)
      obtain ⟨v, SB, b1, b2, b3, pB, kB⟩ := Sk _ SA j 4 hp (by omega) (by decide) (by decide)
      have haB := ha.keep kB (by omega) (by omega)
      have hsB := kB.get hs hsj
      refine Ex.seq (M := J ds d) ?_ ?_
      · by_cases hv : v = 0 ∧ pre ≠ []
        · obtain ⟨hv0, hpn⟩ := hv
          rcases List.eq_nil_or_concat pre with e | ⟨pre', q', e⟩
          · exact absurd e hpn
          · have hpre : pre = pre' ++ [q'] := e.trans List.concat_eq_append
            subst hpre
            have hsl : ((((pre' ++ [q']) ++ [last]).map sD).length : Int) > 1 := by simp; omega
            rw [sD_snoc] at hsB
            have ep := pop_ok hsB
            have haC : ClubAt T.C_Club c (c + 1) (SB.set s (.lst ((pre' ++ [q']).map sD))) (cn last) gp ((pre' ++ [q']).map cn) := ⟨by rw [List.getElem?_set_ne hsc]; exact haB.at_, by rw [List.getElem?_set_ne hsh]; exact haB.his, haB.ne⟩
            obtain ⟨SD, eD, aD, fD⟩ := (Sbk _ c (c + 1) (cn last) gp _ haC hk).2 (pre'.map cn) (cn q') (by rw [List.map_append]; rfl)
            refine Ex.tt (S1 := SB) (and_tt (tru_b (bin_ok (call_ok (acons_ok rfl (acons_ok rfl rfl)) rfl b1) rfl eq_ii) (decide_eq_true hv0)) (tru_b (b := true) (bin_ok (callb_ok (acons_ok rfl rfl) (len_at hsB)) rfl (by
              rw [← sD_snoc]
              show some (D.bl (decide _)) = _
              rw [decide_eq_true hsl])) rfl)) ?_
            refine Ex.seqn (expr_ok (bm_ok (d := .ref s) rfl (isl_at hsB) rfl ep)) ?_
            refine Ex.nx (if_ff (tru_b (b := false) (bin_ok (meth_ok (d := .ref c) (ds := []) rfl (recv_at2 haC.at_ rfl) rfl rfl eD) rfl rfl) rfl) rfl) ?_
            refine ⟨s, pre', q', n + 1, none, rfl, ?_, by omega, fD.get hsc hsh (get_set hsB), hsj, hsc, hsh, fun q hq => hgp q hq, ?_, ?_, aD⟩
            · exact (pB.set hsj).fr fD (by omega) (by omega)
            · rw [List.length_append, List.length_singleton] at hlen
              omega
            · obtain ⟨r, hr⟩ := hfst
              rcases pre' with _ | ⟨x, pre'⟩
              · exact ⟨[], by injection hr with h1 _; rw [h1]; rfl⟩
              · exact ⟨pre' ++ [q'], by injection hr with h1 _; rw [h1]; rfl⟩
        · obtain ⟨SD, pD_, fD, hD⟩ := Sd (n + 1) SB j c (c + 1) last gp (pre.map cn) ns pB (by omega) haB (by omega) (by omega) (by rw [List.length_map]; omega) hns hgl hg0 hg1
          have hsl : ((((pre ++ [last]).map sD).length : Int) > 1) = (pre ≠ []) := by
            rw [List.length_map, List.length_append, List.length_singleton]
            rcases pre with _ | ⟨x, pre⟩
            · simp
            · simp
              omega
          refine Ex.ff (S1 := SB) (by
            by_cases hv0 : v = 0
            · have hpn : ¬ pre ≠ [] := fun z => hv ⟨hv0, z⟩
              exact and_tt (tru_b (bin_ok (call_ok (acons_ok rfl (acons_ok rfl rfl)) rfl b1) rfl eq_ii) (decide_eq_true hv0)) (tru_b (b := false) (bin_ok (callb_ok (acons_ok rfl rfl) (len_at hsB)) rfl (by
                show some (D.bl (decide (_ > (1 : Int)))) = _
                rw [decide_eq_false (by rw [hsl]; exact hpn)])) rfl)
            · exact and_ff (tru_b (bin_ok (call_ok (acons_ok rfl (acons_ok rfl rfl)) rfl b1) rfl eq_ii) (decide_eq_false hv0))) ?_
          have hcl : c + 1 < SB.length := (List.getElem?_eq_some_iff.mp haB.his).1
          have hjl := pB.lt
          have hDl := fD.1
          have hsD : SD[s]? = some (.lst ((pre ++ [last]).map sD)) := by
            rw [fD.2 s hsj hsc hsh (List.getElem?_eq_some_iff.mp hsB).1]
            exact hsB
          have hlx : ((pre ++ [last]).map sD).length ≤ 1000 := by
            rw [List.length_map, List.length_append, List.length_singleton]
            omega
          rcases hD with ⟨eD, aD⟩ | ⟨q', hq', eD, aD⟩
          · refine Ex.seqn (set_ok (call_ok (acons_ok rfl (acons_ok rfl (acons_ok (bin_ok rfl (un_ok rfl rfl) (last_sD hsB)) (acons_ok rfl rfl)))) rfl eD)) ?_
            refine Ex.seqn (if_ff (and_ff (tru_b (b := false) (bin_ok rfl rfl rfl) rfl)) rfl) ?_
            refine Ex.nx (set_ok (binN_ok rfl (ife_ff (tru_b (b := false) (bin_ok rfl rfl rfl) rfl) (lst_ok rfl (Nat.zero_le _))) (catN_ok hsD (by simp only [List.length_nil]; omega)))) ?_
            refine ⟨SD.length, pre, last, n + 6, some .non, rfl, PotAt.mono pD_.push (by omega), by omega, by simp, by omega, by omega, by omega, hgs, by omega, hfst, ⟨?_, ?_, aD.ne⟩⟩
            · rw [List.getElem?_append_left (by omega)]; exact aD.at_
            · rw [List.getElem?_append_left (by omega)]; exact aD.his
          · refine Ex.seqn (set_ok (call_ok (acons_ok rfl (acons_ok rfl (acons_ok (bin_ok rfl (un_ok rfl rfl) (last_sD hsB)) (acons_ok rfl rfl)))) rfl eD)) ?_
            refine Ex.seqn (if_ff (and_tt (tru_b (b := true) (bin_ok rfl rfl rfl) rfl) (tru_b (b := false) (bin_ok (bin_ok (d := .non) rfl rfl rfl) rfl rfl) rfl)) rfl) ?_
            refine Ex.nx (set_ok (binN_ok rfl (ife_tt (tru_b (b := true) (bin_ok rfl rfl rfl) rfl) (lst_ok (ds := [sD q']) (acons_ok (bin_ok rfl rfl rfl) rfl) (by simp))) (catN_ok hsD (by simp only [List.length_cons, List.length_nil]; omega)))) ?_
            refine ⟨SD.length, pre ++ [last], q', n + 6, some (.tup [sD q', .non]), rfl, PotAt.mono pD_.push (by omega), by omega, by simp [sD_snoc], by omega, by omega, by omega, fun q hq => ?_, ?_, ?_, ⟨?_, ?_, aD.ne⟩⟩
            · rcases List.mem_append.mp hq with hq | hq
              · exact hgs q hq
              · rw [List.mem_singleton.mp hq]; exact hq'
            · rw [List.length_append, List.length_singleton]; omega
            · obtain ⟨r, hr⟩ := hfst
              exact ⟨r ++ [q'], by rw [hr]; rfl⟩
            · rw [List.getElem?_append_left (by omega)]; exact aD.at_
            · rw [List.getElem?_append_left (by omega), List.map_append]; exact aD.his
      · rintro _ SE ⟨s, pre, last, n, o, rfl, hp, hn, hs, hsj, hsc, hsh, hgs, hlen, hfst, ha⟩
        have hgp : ∀ q ∈ pre, GoodSt ns q := fun q hq => hgs q (List.mem_append_left _ hq)
        have hgl := hgs last (by simp)
        have hk := hist_ok hns hgp hg0 hg1 (by omega)
        have er := Sr SE c (c + 1) last gp _ ha (good_st hns hgl hg0 hg1)
        have ef := (Sf SE c (c + 1) (cn last) gp _ ha hk).1
        exact Ex.nx (if_ff (or_ff (not_ok (b := true) (tru_b (call_ok (acons_ok rfl (acons_ok (bin_ok rfl (un_ok rfl rfl) (last_sD hs)) (acons_ok rfl rfl))) rfl er) rfl)) (not_ok (b := true) (tru_b (call_ok (acons_ok rfl (acons_ok rfl rfl)) rfl ef) rfl))) rfl) ⟨s, pre, last, n, rfl, hp, hn, hs, hsj, hsc, hsh, hgs, hlen, hfst, ha⟩
    case after =>
      rintro _ SA ⟨s, pre, last, n, rfl, hp, hn, hs, hsj, hsc, hsh, hgs, hlen, hfst, ha⟩
      have hgp : ∀ q ∈ pre, GoodSt ns q := fun q hq => hgs q (List.mem_append_left _ hq)
      have hgl := hgs last (by simp)
      have hG := good_st hns hgl hg0 hg1
      have hG2 := good_cn hG
      have hcl : c + 1 < SA.length := (List.getElem?_eq_some_iff.mp ha.his).1
      have hsl : s < SA.length := (List.getElem?_eq_some_iff.mp hs).1
      obtain ⟨SB, hist2, eB, aB, hl2, hg2, hlB, prB⟩ := Sb SA last gp ns hns hgl hg0 hg1
      obtain ⟨c2, hc2⟩ : ∃ c2, c2 = SA.length := ⟨_, rfl⟩
      rw [← hc2] at eB aB hlB prB
      have haB : ClubAt T.C_Club c (c + 1) SB (cn last) gp (pre.map cn) := ⟨by rw [prB c (by omega)]; exact ha.at_, by rw [prB (c + 1) (by omega)]; exact ha.his, ha.ne⟩
      have hsB : SB[s]? = some (.lst ((pre ++ [last]).map sD)) := by rw [prB s (by omega)]; exact hs
      refine Ex.seqn (set_ok (call_ok (acons_ok (bin_ok rfl (un_ok rfl rfl) (last_sD hs)) (acons_ok rfl (acons_ok rfl rfl))) rfl eB)) ?_
      obtain ⟨q1, q2⟩ := eqc SB (cn last) (cn last) c2 (c2 + 1) _ _ haB aB hG2 hG2
      rw [decide_eq_true rfl] at q1 q2
      refine Ex.seqn (if_ff (or_ff (tru_b (bin_ok rfl rfl q2) rfl) (or_ff (not_ok (b := true) (tru_b (bin_ok rfl rfl q1) rfl)) (not_ok (b := true) (tru_b (call_ok (acons_ok rfl (acons_ok (bin_ok rfl (un_ok rfl rfl) (last_sD hsB)) (acons_ok rfl rfl))) rfl (Sr SB c2 (c2 + 1) last gp _ aB hG)) rfl)))) rfl) ?_
      obtain ⟨SC, eC, aC, fC⟩ := Su SB c (c + 1) c2 (c2 + 1) last gp (pre.map cn) hist2 ns haB aB (by omega) (by omega) (by omega) (by omega) hns hgl hg0 hg1 hg2 (by omega)
      have haC := haB.fr fC (by omega) (by omega) (by omega) (by omega)
      have hsC := fC.get (by omega) (by omega) hsB
      refine Ex.seqn (if_ff (not_ok (b := true) (tru_b (call_ok (acons_ok rfl (acons_ok rfl (acons_ok (bin_ok rfl (un_ok rfl rfl) (last_sD hsB)) rfl))) rfl eC) rfl)) rfl) ?_
      have hstr : gStrO T.C_Club (gpStr T.C_Club) SC [.ref c] = some (.str (Txt.join "\n" (rowsC (cn last).1 (cn last).2 gp))) := by
        unfold gStrO
        dsimp only
        unfold gOwn1
        rw [vref haC.at_]
        show (if T.C_Club = T.C_Club then gpStr T.C_Club SC (.ref c) else none).bind strD = _
        rw [if_pos rfl]
        unfold gpStr
        rw [clOf_of haC hG2]
        rfl
      have hcir := Sc SC c (c + 1) (cn last) gp _ haC hG2
      have hne : T.C_Circle ≠ T.C_Club := fun z => by
        have h1 := T.ko_Club_Circle
        rw [z] at h1
        have h2 : PySem.W.kitOne K (.ref T.C_Club) (.ref T.C_Club) = some true := if_pos (beq_self_eq_true _)
        rw [h2] at h1
        cases h1
      have things : ∀ x ∈ ([.non, .str (Txt.join "\n" (rowsC (cn last).1 (cn last).2 gp)), crD T.C_Circle (cn last).1 (cn last).2 gp, .int 0, .tup []] : List D), gOwnEq T.C_Club (tsCl T.C_Club T.C_Circle) (gpCl T.C_Club T.C_Circle) SC (.ref c) x = some (.bl false) ∧ gOwnNe T.C_Club (tsCl T.C_Club T.C_Circle) (gpCl T.C_Club T.C_Circle) SC (.ref c) x = some (.bl true) := by
        intro x hx
        simp only [List.mem_cons, List.not_mem_nil, or_false] at hx
        rcases hx with rfl | rfl | rfl | rfl | rfl
        · exact eq_thing (t := .non) haC hG2 (fun _ z => nomatch z) rfl (by simp [tsCl]) rfl
        · exact eq_thing (t := .str) haC hG2 (fun _ z => nomatch z) rfl (by simp [tsCl]) rfl
        · refine eq_thing (t := .obj T.C_Circle) haC hG2 (fun _ z => by unfold crD at z; cases z) rfl (by simp [tsCl]) ?_
          show ((if T.C_Circle = T.C_Club then some true else if T.C_Circle = T.C_Circle then some false else none).map D.bl) = _
          rw [if_neg hne, if_pos rfl]
          rfl
        · exact eq_thing (t := .int) haC hG2 (fun _ z => nomatch z) rfl (by simp [tsCl]) rfl
        · exact eq_thing (t := .tup) haC hG2 (fun _ z => nomatch z) rfl (by simp [tsCl]) rfl
      refine Ex.seqn (if_ff (tru_b (b := false) (callb_ok (acons_ok (comp_okL (iter_ok (tup_ok (acons_ok rfl (acons_ok (callb_ok (acons_ok rfl rfl) hstr) (acons_ok (meth_ok (d := .ref c) (ds := []) rfl (recv_at2 haC.at_ rfl) rfl rfl hcir) (acons_ok rfl (acons_ok (tup_ok rfl (by simp)) rfl))))) (by simp)) rfl) (by show (5 : Nat) ≤ 100000; decide)
        (comp_map (enc := fun x : D => x) (f := fun _ => D.bl ((fun _ => false) ())) trivial [.non, .str (Txt.join "\n" (rowsC (cn last).1 (cn last).2 gp)), crD T.C_Circle (cn last).1 (cn last).2 gp, .int 0, .tup []] fun x hx => ⟨_, rfl, orv_ff (bin_ok rfl rfl (things x hx).1) rfl (notv_ok (b := true) (bin_ok rfl rfl (things x hx).2))⟩)) rfl) rfl) rfl) rfl) ?_
      obtain ⟨gN, nN, hno⟩ := nob_good hns hgl hg0 hg1
      obtain ⟨SD, eD, aD, fD⟩ := Sj SC c2 (c2 + 1) (cn last) gp hist2 "nobodyatall" "hut" aC (by omega) (by have := hG2.lm; omega) hno
      refine Ex.seqn (expr_ok (meth_ok (d := .ref c2) rfl (recv_at2 aC.at_ rfl) (acons_ok rfl (acons_ok rfl rfl)) rfl eD)) ?_
      have haD := haC.fr fD (by omega) (by omega) (by omega) (by omega)
      have hsD := fD.get (by omega) (by omega) hsC
      obtain ⟨q3, q4⟩ := eqc SD _ _ c2 (c2 + 1) _ _ haD aD hG2 gN
      rw [decide_eq_false (fun z => nN z.symm)] at q3 q4
      have eN := Sw SD gp
      obtain ⟨SE, hSE⟩ : ∃ SE, SE = SD ++ [O.ins T.C_Club (clFs [] [] gp (SD.length + 1)), .lst []] := ⟨_, rfl⟩
      rw [← hSE] at eN
      have hcD : c + 1 < SD.length := (List.getElem?_eq_some_iff.mp haD.his).1
      have aN : ClubAt T.C_Club SD.length (SD.length + 1) SE ([], []) gp ([].map cn) := by
        rw [hSE]
        refine ⟨?_, ?_, by omega⟩
        · rw [List.getElem?_append_right (Nat.le_refl _), Nat.sub_self]; rfl
        · rw [List.getElem?_append_right (by omega), show SD.length + 1 - SD.length = 1 by omega]; rfl
      have haE : ClubAt T.C_Club c (c + 1) SE (cn last) gp (pre.map cn) := by
        rw [hSE]
        exact ⟨by rw [List.getElem?_append_left (by omega)]; exact haD.at_, by rw [List.getElem?_append_left (by omega)]; exact haD.his, haD.ne⟩
      have hsE : SE[s]? = some (.lst ((pre ++ [last]).map sD)) := by
        rw [hSE, List.getElem?_append_left (List.getElem?_eq_some_iff.mp hsD).1]
        exact hsD
      have g00 : GoodC [] [] gp := ⟨by simp, List.nodup_nil, by simp, List.nodup_nil, (fun p hp => nomatch hp), (fun p hp => nomatch hp), hg0, hg1⟩
      obtain ⟨_, q6⟩ := eqc SE (cn last) ([], []) SD.length (SD.length + 1) _ _ haE aN hG2 g00
      refine Ex.seqn (if_ff (S1 := SE) (or_ff (tru_b (bin_ok rfl rfl q3) rfl) (or_ff (not_ok (b := true) (tru_b (bin_ok rfl rfl q4) rfl)) (by
        by_cases hz : cn last = ([], [])
        · rw [decide_eq_true hz] at q6
          exact and_ff (tru_b (bin_ok rfl (call_ok (acons_ok rfl rfl) rfl eN) q6) rfl)
        · rw [decide_eq_false hz] at q6
          have hz2 : last ≠ ([], []) := fun z => hz (by rw [z]; exact cn_nil)
          exact and_tt (tru_b (bin_ok rfl (call_ok (acons_ok rfl rfl) rfl eN) q6) rfl) (tru_b (bin_ok (bin_ok rfl (un_ok rfl rfl) (last_sD hsE)) (tup_ok (acons_ok rfl (acons_ok (lst_ok rfl (Nat.zero_le _)) rfl)) (by simp)) (d := .bl ((kv2 last.1).isEmpty && (psD last.2).isEmpty)) rfl) (dl_ne hz2))))) rfl) ?_
      let RR : Ev := [some (.lst (zs.map D.int)), some (.int (k : Int)), some (.ref j), some (.lst (ns.map D.str)), some (.int gp), some (.ref c), some (.ref s), some (.lst [.int m1, .int (40 + m2)]), none, none, some (.ref c2), none, none]
      let I2 : List D → Ev → Sto → Prop := fun ds ρ S' => ∃ (a : List StP) (q : StP), ds = a.reverse.map sD ∧ ρ = RR ∧ ClubAt T.C_Club c (c + 1) S' (cn q) gp (a.map cn) ∧ (∀ x ∈ a, GoodSt ns x) ∧ a.length ≤ 60 ∧ ∃ r, a ++ q :: r = pre ++ [last]
      have hsli : gSlice SE (.ref s) none (some (-1)) = some (.lst (pre.map sD)) := by
        unfold gSlice
        rw [vref hsE]
        show some (D.lst (cutD _ _ _)) = _
        rw [sD_snoc, cut_init]
      refine Ex.seq (M := fun ρ S' => I2 [] ρ S') (Ex.forL I2 (iter_ok (un_ok (slice_ok rfl rfl (osome_ok (un_ok rfl rfl)) hsli) rfl) rfl) (fun _ => trivial) ⟨pre, last, by rw [List.map_reverse], rfl, haE, hgp, by simp only [List.length_nil] at hlen; omega, [], rfl⟩ ?_ (fun _ _ h => h)) ?_
      · rintro d ds _ SF ⟨a, q, hds, rfl, haF, hga, hal, r, hr⟩
        rcases List.eq_nil_or_concat a with e | ⟨a', q', e⟩
        · rw [e] at hds
          cases hds
        · have e' : a = a' ++ [q'] := e.trans List.concat_eq_append
          subst e'
          rw [List.reverse_append, List.map_append] at hds
          injection hds with hd1 hd2
          subst hd1
          refine ⟨_, rfl, ?_⟩
          obtain ⟨SG, eG, aG, fG⟩ := (Sf SF c (c + 1) (cn q) gp _ haF (hist_ok hns hga hg0 hg1 (by omega))).2.2 (a'.map cn) (cn q') (by rw [List.map_append]; rfl)
          refine Ex.nx (if_ff (or_ff (tru_b (call_ok (acons_ok rfl (acons_ok rfl rfl)) rfl eG) rfl) (not_ok (b := true) (tru_b (call_ok (acons_ok rfl (acons_ok rfl (acons_ok rfl rfl))) rfl (Sr SG c (c + 1) q' gp _ aG (good_st hns (hga q' (by simp)) hg0 hg1))) rfl))) rfl) ?_
          refine ⟨a', q', hd2, rfl, aG, fun x hx => hga x (List.mem_append_left _ hx), ?_, q :: r, by rw [← hr]; simp⟩
          rw [List.length_append, List.length_singleton] at hal
          omega
      · rintro _ SF ⟨a, q, hds, rfl, haF, hga, hal, r, hr⟩
        have ea : a = [] := by
          cases a with
          | nil => rfl
          | cons x a => rw [List.reverse_cons, List.map_append] at hds; exact absurd hds.symm (by simp)
        subst ea
        have eq0 : q = ([], []) := by
          obtain ⟨r', hr'⟩ := hfst
          rw [hr'] at hr
          injection hr
        subst eq0
        have eG := (Sf SF c (c + 1) (cn ([], [])) gp _ haF (hist_ok hns hga hg0 hg1 (by omega))).2.1 rfl
        exact Ex.nx (if_ff (or_ff (not_ok (b := true) (tru_b (call_ok (acons_ok rfl (acons_ok rfl rfl)) rfl eG) rfl)) (not_ok (b := true) (tru_b (call_ok (acons_ok rfl (acons_ok (tup_ok (acons_ok rfl (acons_ok (lst_ok rfl (Nat.zero_le _)) rfl)) (by simp)) (acons_ok rfl rfl))) rfl (Sr SF c (c + 1) ([], []) gp _ haF g00)) rfl))) rfl) rfl
end
end K61

namespace MP
open PySem PySem.Spec PyProof.Rows L2
theorem dfl3 {K : PySem.W.Frag} {T : Addr} {a b c cls : Value} {n : Nat} {dd : Option Addr} {sl : Array (Option Value)} (h : K.lookup T = some ⟨cls, dd, .seq #[a, b, c] n, sl⟩) (ha : a = .none) (hb : b = .none) (hc : ∃ t, c = .int 1 t) : DflV K (.ref T) [.non, .non, .int 1] :=
  .inr ⟨by simp, T, _, [a, b, c], n, rfl, h, rfl, .cons ha (.cons hb (.cons hc .nil))⟩
end MP
namespace K61
open PySem PySem.Spec PyProof.Rows L2 MP
def spLaw (K : PySem.W.Frag) : Sp := fun vs H Q _ => ∃ (a : Addr) (ns : List Int), vs = [.ref a] ∧ SqL K H a (ns.map V.int) ∧ ns.length ≤ 63 ∧ ∀ H', Q (.bl true) H'
theorem sr_nil {K : PySem.W.Frag} {H : Hp} : SR K [] H [] := ⟨List.nodup_nil, rfl, fun i a o h => by simp at h⟩
theorem vr_script {K : PySem.W.Frag} {H : Hp} {a : Addr} {ns : List Int} (h : SqL K H a (ns.map V.int)) : VR K [] H (.ref a) (.lst (ns.map D.int)) := by
  rcases h with h | ⟨o, its, n, hk, h1, h2, h3, h4, h5⟩
  · exact .lst (by simp) h VRs.of_ints
  · exact .lstK hk h1 h2 h3 h4 h5 VRs.of_ints
section
variable {P : Program} {w : World} {K : PySem.W.Frag} {mg : Str → Option Value} {base : Heap}
theorem law_fn (T : T61 K mg) : MP.FnOk P w K mg base (L2.CX P w) 11 T.f_law T.fd_law ["_law_script"] (spLaw K) := by
  obtain ⟨g, Fn, Sl⟩ := ok_law (P := P) (w := w) (base := base) T
  refine MP.FnOk.imp Fn fun vs H Q E ⟨a, ns, e, hS, hl, k⟩ => ?_
  subst e
  obtain ⟨S', q⟩ := Sl ns hl
  have key : spL K g 1 [.ref a] H Q E := by
    refine ⟨rfl, [], [], [.lst (ns.map D.int)], sr_nil, .cons (vr_script hS) .nil, ?_, ?_, ?_⟩
    · rw [q]; intro z; cases z
    · intro d S2 q2 v H' z
      rw [q] at q2
      cases q2
      obtain ⟨m', e, x, w⟩ := z
      cases w
      exact k H'
    · intro C fs S2 q2
      rw [q] at q2
      cases q2
  exact key
theorem all_ {l : PySem.W.OpenLaw} {w : World} {K : PySem.W.Frag} {mg : Str → Option Value} {fa : Addr} (hfa : mg "law" = some (.ref fa)) (T : T61 K mg) :
    ∃ fd : FuncData, (∀ (s : Shared) (u : Value), BindsTo s fd ⟨[u], []⟩ [("_law_script", u)]) ∧ ∀ base : Heap, K.In base → base.Ns mainGlobals mg → MP.FnOk l.prog w K mg base (L2.CX l.prog w) 11 fa fd ["_law_script"] (spLaw K) := by
  have e := hfa.symm.trans T.mg_law
  cases e
  refine ⟨T.fd_law, fun s u => ?_, fun base _ _ => law_fn T⟩
  obtain ⟨oc, od, kV, doc, pm, an, cdv, ct, osl, e, lk, hcd⟩ := T.F_law.ex
  rw [e]
  exact .of_eq rfl
end
theorem walk {l : PySem.W.OpenLaw} {q : Program} {loose : List Str} {XP : (Str → Option Value) → Heap → Prop} {YP : World → Heap → Prop} {d : DefRec} {K : Params → PySem.W.Frag} (hn : l.most = some 63) (hdf : d.params.defaults = [])
    (hY : ∀ (w : World) (h : Heap), YP w h → (K w.params).In h)
    (F : ∀ (w : World) (mg : Str → Option Value) (fa : Addr) (h : Heap), (K w.params).In h → h.Ns mainGlobals mg → mg d.name = some (.ref fa) →
      ∃ fd : FuncData, (∀ (s : Shared) (u : Value), BindsTo s fd ⟨[u], []⟩ [("_law_script", u)]) ∧ ∀ base : Heap, (K w.params).In base → base.Ns mainGlobals mg → MP.FnOk l.prog w (K w.params) mg base (L2.CX l.prog w) 11 fa fd ["_law_script"] (spLaw (K w.params))) :
    PySem.W.WalkO q loose XP YP l.row.toRowW d [] (fun f vs => PySem.call f vs) :=
  MP.walk_ofG (n := 63) (k := 11) (x := "_law_script") (CX := fun w => L2.CX l.prog w) (sp := fun w => spLaw (K w.params)) hn (by decide) hdf (room_caller ⟨rfl, by decide, by decide⟩) hY F (fun _ _ a ns hl _ _ hS => ⟨a, ns, rfl, hS, hl, fun _ => rfl⟩) fun _ _ _ _ _ z => by
    obtain ⟨_, _, _, _, _, _, _, _, _, _, _, _, hE⟩ := z
    exact hE
end K61
open PySem PySem.W PyProof.Rows
set_option maxRecDepth 100000 in
set_option maxHeartbeats 0 in
theorem PySem.Challenge.cw_lotgivers_k61_deeds_of_a_club_holds : PySem.Challenge.rw_lotgivers_k61_deeds_of_a_club.Holds := by
  w_on; o_law; k_head; (case hw => w_witness2)
  k_fill
  refine K61.walk (l := PySem.Challenge.rw_lotgivers_k61_deeds_of_a_club) rfl rfl (fun w h Y => PySem.W.kIn_of Y) ?F
  case F =>
    intro w mg fa h KX G hmg
    refine' K61.all_ hmg (K61.T61_mk (K61.T61f_mk KX G ?aC_Circle ?aC_Club ?a_circle_rows ?l_circle_rows ?c_circle_rows ?k_circle_rows ?a_Circle___init__ ?i_Circle___init__ ?l_Circle___init__ ?c_Circle___init__ ?k_Circle___init__ ?dv_Circle___init__ ?a_Circle___eq__ ?i_Circle___eq__ ?l_Circle___eq__ ?c_Circle___eq__ ?k_Circle___eq__ ?a_Circle___str__ ?i_Circle___str__ ?l_Circle___str__ ?c_Circle___str__ ?k_Circle___str__ ?a_Circle_house_of ?i_Circle_house_of ?l_Circle_house_of ?c_Circle_house_of ?k_Circle_house_of ?a_without ?l_without ?c_without ?k_without ?a_Club___init__ ?i_Club___init__ ?l_Club___init__ ?c_Club___init__ ?k_Club___init__ ?dv_Club___init__ ?a_Club___eq__ ?i_Club___eq__ ?l_Club___eq__ ?c_Club___eq__ ?k_Club___eq__ ?a_Club___len__ ?i_Club___len__ ?l_Club___len__ ?c_Club___len__ ?k_Club___len__ ?a_Club___str__ ?i_Club___str__ ?l_Club___str__ ?c_Club___str__ ?k_Club___str__ ?a_Club_circle ?i_Club_circle ?l_Club_circle ?c_Club_circle ?k_Club_circle ?a_Club_is_there ?i_Club_is_there ?l_Club_is_there ?c_Club_is_there ?k_Club_is_there ?a_Club_become ?i_Club_become ?l_Club_become ?c_Club_become ?k_Club_become ?a_Club_join ?i_Club_join ?l_Club_join ?c_Club_join ?k_Club_join ?dv_Club_join ?a_Club_leave ?i_Club_leave ?l_Club_leave ?c_Club_leave ?k_Club_leave ?a_Club_bar ?i_Club_bar ?l_Club_bar ?c_Club_bar ?k_Club_bar ?a_Club_unbar ?i_Club_unbar ?l_Club_unbar ?c_Club_unbar ?k_Club_unbar ?a_Club_back ?i_Club_back ?l_Club_back ?c_Club_back ?k_Club_back ?a_Club_last ?i_Club_last ?l_Club_last ?c_Club_last ?k_Club_last ?a__law_pot ?l__law_pot ?c__law_pot ?k__law_pot ?a__law_pick ?l__law_pick ?c__law_pick ?k__law_pick ?a__law_of ?l__law_of ?c__law_of ?k__law_of ?a__law_names ?l__law_names ?c__law_names ?k__law_names ?a__law_text ?l__law_text ?c__law_text ?k__law_text ?a__law_right ?l__law_right ?c__law_right ?k__law_right ?a__law_done ?l__law_done ?c__law_done ?k__law_done ?a__law_by_others ?l__law_by_others ?c__law_by_others ?k__law_by_others ?a__law_unlike_right ?l__law_unlike_right ?c__law_unlike_right ?k__law_unlike_right ?a__law_refused ?l__law_refused ?c__law_refused ?k__law_refused ?a_law ?l_law ?c_law ?k_law ?pg_Circle ?hd_Circle ?po_Circle ?sa_Circle ?mkk_Circle ?kc_Circle ?ha_Circle ?hn_Circle ?ht_Circle ?hm_Circle ?na_Circle_members ?na_Circle_bars ?na_Circle_past ?na_Circle_gap ?na_Circle_houses ?na_Circle_names_told ?na_Circle_barred ?na_Circle_gone_by ?ne_Circle ?pg_Club ?hd_Club ?po_Club ?sa_Club ?mkk_Club ?kc_Club ?ha_Club ?hn_Club ?ht_Club ?hm_Club ?na_Club_kept_gap ?na_Club_kept_members ?na_Club_kept_bars ?na_Club_kept_years ?na_Club_states_had ?ne_Club ?nf_Club_NoneType ?nf_Club_int ?nf_Club_tuple ?nf_Club_str ?nf_Club_Circle ?ko_Club_NoneType ?ko_Club_int ?ko_Club_tuple ?ko_Club_str ?ko_Club_Circle ?n_len ?n_any ?n_range ?n_isinstance ?n_list ?n_tuple ?n_str ?n_max ?n_min ?n_dict ?n_int ?n_sorted ?n_repr) (K61.T61x_mk KX G ?aC_NoYear ?aC_NoBack ?aC_LotError ?hn_ ?ht_ ?ga_NoYear ?gg_NoYear ?ex_NoYear ?hd_NoYear ?ty_NoYear ?kc_NoYear ?ha_NoYear ?hm_NoYear ?xi_NoYear ?ga_NoBack ?gg_NoBack ?ex_NoBack ?hd_NoBack ?ty_NoBack ?kc_NoBack ?ha_NoBack ?hm_NoBack ?xi_NoBack ?ga_LotError ?gg_LotError ?ex_LotError ?hd_LotError ?ty_LotError ?kc_LotError ?ha_LotError ?hm_LotError ?li1 ?li2 ?li3) ?su_yy ?su_by ?su_bb)
    (case aC_Circle => k_is)
    (case aC_Club => k_is)
    (case a_circle_rows => k_is)
    (case l_circle_rows => k_is)
    (case c_circle_rows => k_is)
    (case k_circle_rows => k_is)
    (case a_Circle___init__ => k_is)
    (case i_Circle___init__ => k_is)
    (case l_Circle___init__ => k_is)
    (case c_Circle___init__ => k_is)
    (case k_Circle___init__ => k_is)
    (case dv_Circle___init__ => refine' MP.dfl3 ?lk ?d1 ?d2 ?d3; (case lk => k_is); (case d1 => rfl); (case d2 => rfl); (case d3 => exact ⟨_, rfl⟩))
    (case a_Circle___eq__ => k_is)
    (case i_Circle___eq__ => k_is)
    (case l_Circle___eq__ => k_is)
    (case c_Circle___eq__ => k_is)
    (case k_Circle___eq__ => k_is)
    (case a_Circle___str__ => k_is)
    (case i_Circle___str__ => k_is)
    (case l_Circle___str__ => k_is)
    (case c_Circle___str__ => k_is)
    (case k_Circle___str__ => k_is)
    (case a_Circle_house_of => k_is)
    (case i_Circle_house_of => k_is)
    (case l_Circle_house_of => k_is)
    (case c_Circle_house_of => k_is)
    (case k_Circle_house_of => k_is)
    (case a_without => k_is)
    (case l_without => k_is)
    (case c_without => k_is)
    (case k_without => k_is)
    (case a_Club___init__ => k_is)
    (case i_Club___init__ => k_is)
    (case l_Club___init__ => k_is)
    (case c_Club___init__ => k_is)
    (case k_Club___init__ => k_is)
    (case dv_Club___init__ => refine' MP.dfl1i ?lk ?d3; (case lk => k_is); (case d3 => exact ⟨_, rfl⟩))
    (case a_Club___eq__ => k_is)
    (case i_Club___eq__ => k_is)
    (case l_Club___eq__ => k_is)
    (case c_Club___eq__ => k_is)
    (case k_Club___eq__ => k_is)
    (case a_Club___len__ => k_is)
    (case i_Club___len__ => k_is)
    (case l_Club___len__ => k_is)
    (case c_Club___len__ => k_is)
    (case k_Club___len__ => k_is)
    (case a_Club___str__ => k_is)
    (case i_Club___str__ => k_is)
    (case l_Club___str__ => k_is)
    (case c_Club___str__ => k_is)
    (case k_Club___str__ => k_is)
    (case a_Club_circle => k_is)
    (case i_Club_circle => k_is)
    (case l_Club_circle => k_is)
    (case c_Club_circle => k_is)
    (case k_Club_circle => k_is)
    (case a_Club_is_there => k_is)
    (case i_Club_is_there => k_is)
    (case l_Club_is_there => k_is)
    (case c_Club_is_there => k_is)
    (case k_Club_is_there => k_is)
    (case a_Club_become => k_is)
    (case i_Club_become => k_is)
    (case l_Club_become => k_is)
    (case c_Club_become => k_is)
    (case k_Club_become => k_is)
    (case a_Club_join => k_is)
    (case i_Club_join => k_is)
    (case l_Club_join => k_is)
    (case c_Club_join => k_is)
    (case k_Club_join => k_is)
    (case dv_Club_join => refine' MP.dfl1s ?lk ?d3; (case lk => k_is); (case d3 => exact ⟨_, rfl⟩))
    (case a_Club_leave => k_is)
    (case i_Club_leave => k_is)
    (case l_Club_leave => k_is)
    (case c_Club_leave => k_is)
    (case k_Club_leave => k_is)
    (case a_Club_bar => k_is)
    (case i_Club_bar => k_is)
    (case l_Club_bar => k_is)
    (case c_Club_bar => k_is)
    (case k_Club_bar => k_is)
    (case a_Club_unbar => k_is)
    (case i_Club_unbar => k_is)
    (case l_Club_unbar => k_is)
    (case c_Club_unbar => k_is)
    (case k_Club_unbar => k_is)
    (case a_Club_back => k_is)
    (case i_Club_back => k_is)
    (case l_Club_back => k_is)
    (case c_Club_back => k_is)
    (case k_Club_back => k_is)
    (case a_Club_last => k_is)
    (case i_Club_last => k_is)
    (case l_Club_last => k_is)
    (case c_Club_last => k_is)
    (case k_Club_last => k_is)
    (case a__law_pot => k_is)
    (case l__law_pot => k_is)
    (case c__law_pot => k_is)
    (case k__law_pot => k_is)
    (case a__law_pick => k_is)
    (case l__law_pick => k_is)
    (case c__law_pick => k_is)
    (case k__law_pick => k_is)
    (case a__law_of => k_is)
    (case l__law_of => k_is)
    (case c__law_of => k_is)
    (case k__law_of => k_is)
    (case a__law_names => k_is)
    (case l__law_names => k_is)
    (case c__law_names => k_is)
    (case k__law_names => k_is)
    (case a__law_text => k_is)
    (case l__law_text => k_is)
    (case c__law_text => k_is)
    (case k__law_text => k_is)
    (case a__law_right => k_is)
    (case l__law_right => k_is)
    (case c__law_right => k_is)
    (case k__law_right => k_is)
    (case a__law_done => k_is)
    (case l__law_done => k_is)
    (case c__law_done => k_is)
    (case k__law_done => k_is)
    (case a__law_by_others => k_is)
    (case l__law_by_others => k_is)
    (case c__law_by_others => k_is)
    (case k__law_by_others => k_is)
    (case a__law_unlike_right => k_is)
    (case l__law_unlike_right => k_is)
    (case c__law_unlike_right => k_is)
    (case k__law_unlike_right => k_is)
    (case a__law_refused => k_is)
    (case l__law_refused => k_is)
    (case c__law_refused => k_is)
    (case k__law_refused => k_is)
    (case a_law => k_is)
    (case l_law => k_is)
    (case c_law => k_is)
    (case k_law => k_is)
    (case pg_Circle => k_is)
    (case hd_Circle => k_is)
    (case po_Circle => k_is)
    (case sa_Circle => k_is)
    (case mkk_Circle => k_is)
    (case kc_Circle => k_is)
    (case ha_Circle => k_is)
    (case hn_Circle => k_is)
    (case ht_Circle => k_is)
    (case hm_Circle => k_is)
    (case na_Circle_members => k_is)
    (case na_Circle_bars => k_is)
    (case na_Circle_past => k_is)
    (case na_Circle_gap => k_is)
    (case na_Circle_houses => k_is)
    (case na_Circle_names_told => k_is)
    (case na_Circle_barred => k_is)
    (case na_Circle_gone_by => k_is)
    (case ne_Circle => k_is)
    (case pg_Club => k_is)
    (case hd_Club => k_is)
    (case po_Club => k_is)
    (case sa_Club => k_is)
    (case mkk_Club => k_is)
    (case kc_Club => k_is)
    (case ha_Club => k_is)
    (case hn_Club => k_is)
    (case ht_Club => k_is)
    (case hm_Club => k_is)
    (case na_Club_kept_gap => k_is)
    (case na_Club_kept_members => k_is)
    (case na_Club_kept_bars => k_is)
    (case na_Club_kept_years => k_is)
    (case na_Club_states_had => k_is)
    (case ne_Club => k_is)
    (case nf_Club_NoneType => k_is)
    (case nf_Club_int => k_is)
    (case nf_Club_tuple => k_is)
    (case nf_Club_str => k_is)
    (case nf_Club_Circle => k_is)
    (case ko_Club_NoneType => first | k_is | kit_is)
    (case ko_Club_int => first | k_is | kit_is)
    (case ko_Club_tuple => first | k_is | kit_is)
    (case ko_Club_str => first | k_is | kit_is)
    (case ko_Club_Circle => first | k_is | kit_is)
    (case n_len => k_is)
    (case n_any => k_is)
    (case n_range => k_is)
    (case n_isinstance => k_is)
    (case n_list => k_is)
    (case n_tuple => k_is)
    (case n_str => k_is)
    (case n_max => k_is)
    (case n_min => k_is)
    (case n_dict => k_is)
    (case n_int => k_is)
    (case n_sorted => k_is)
    (case n_repr => k_is)
    (case aC_NoYear => k_is)
    (case aC_NoBack => k_is)
    (case aC_LotError => k_is)
    (case hn_ => k_is)
    (case ht_ => k_is)
    (case ga_NoYear => k_is)
    (case gg_NoYear => k_is)
    (case ex_NoYear => k_is)
    (case hd_NoYear => k_is)
    (case ty_NoYear => k_is)
    (case kc_NoYear => k_is)
    (case ha_NoYear => k_is)
    (case hm_NoYear => k_is)
    (case xi_NoYear => first | k_is | k_exc)
    (case ga_NoBack => k_is)
    (case gg_NoBack => k_is)
    (case ex_NoBack => k_is)
    (case hd_NoBack => k_is)
    (case ty_NoBack => k_is)
    (case kc_NoBack => k_is)
    (case ha_NoBack => k_is)
    (case hm_NoBack => k_is)
    (case xi_NoBack => first | k_is | k_exc)
    (case ga_LotError => k_is)
    (case gg_LotError => k_is)
    (case ex_LotError => k_is)
    (case hd_LotError => k_is)
    (case ty_LotError => k_is)
    (case kc_LotError => k_is)
    (case ha_LotError => k_is)
    (case hm_LotError => k_is)
    (case li1 => k_is)
    (case li2 => k_is)
    (case li3 => k_is)
    (case su_yy => (dsimp only [K61.T61x_mk]; k_is))
    (case su_by => (dsimp only [K61.T61x_mk]; k_is))
    (case su_bb => (dsimp only [K61.T61x_mk]; k_is))
