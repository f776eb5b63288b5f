import PyProof.Rows.All
import Wide.All
import OpenK.AllK
import Wide.FinOn
import HandS.ExcInit
import HandS.ExcIs
import HandS.ExcField
import HandS.WordsExc
import HandS.ForMost
import HandS.Exc
import HandS.EndBits
import HandS.Wide
import HandS.TupAny
import HandS.TupMul
import HandS.Deep
import HandS.FStr
import HandS.RaiseMore
import HandS.IsInst
import HandS.ExcOwn
import HandS.Comp
import PyProof.CallFns
import HandS.Dict
import HandS.Small
import HandS.WordsDict
import KE.SortData
import PyProof.Rows.SortWalk
import HandS.Conv
import HandS.More
import KE.KDictSum
import PyProof.TupleOfSeq
import KE.KCallOwn
import HandS.ExcValue
import PyProof.StrOps2
import PyProof.ReprRoads
import HandS.Text
import HandS.StrMore
import PyProof.Rows.RuleB_pow
import HandS.Zip
import HandS.TupLe
import HandS.Strs
import HandS.Style
import HandS.Set
import HandS.SetFor
import KE.OsSortAny
import KE.KRevSl
import PyProof.ListRange
import PyProof.StrWalks
import HandS.Sort
import HandS.TupSets
import KE.KDictPairs
import KE.KDictKeyed
import KE.KDictZip
import KE.KDictItemsList
import KE.DataMinMax
import HandS.OwnEq
import HandS.Defaults
import KE.DataCmp
import PyProof.AutoSeq1
import KE.KIntText
import PyProof.Rows.Digits
import KE.GoesEnumKw
import HandS.CallLocal
import HandS.Codes
import PySem.Challenge.RW_lotgivers_k60_texts_of_anything
set_option Elab.async false
set_option linter.all false
set_option maxRecDepth 100000
set_option maxHeartbeats 4000000
/-! an own exception class over ValueError, made with keywords -/
namespace PySem.MPX
open PySem PySem.Spec PySem.HandSPX
section
variable {prog : Program} {w : World} {M : Model} {A : Around} {E : Value → Shared → Prop} {R : Result → Shared → Prop} {h : Heap} {g : Array GenState} {d : Drawn} {t : Nat} {os : OsState}
variable {nm q : Str} {C N : Addr} {bs bm bmB : List Value} {hdct : Bool} {sn : List Str} {sub : List Value} {ab : Bool} {col : Option Bool} {dd : Option Addr} {k0 k1 k2 k3 k5 : Option Value} {B newId initId : String}
end
end PySem.MPX

namespace MP
open PySem PySem.Spec PyProof.Rows L2

/-- an own class that takes ValueError's __init__ over -/
structure LInit (K : PySem.W.Frag) (L : Addr) (mc : Value) : Prop where
  rd : PySem.W.readsIn K L mc = true
  ga : PySem.W.specialIn K (.ref L) "__getattribute__" = some (some (.builtin "type.__getattribute__"))
  at_ : PySem.W.findCls K (.ref L) mc "__init__" = some (.val (.builtin "ValueError.__init__"))
section
variable {X : Cx} {e : Expr} {es : List Expr} {ta : TA} {p1 p2 pos : Pos}
theorem pe_loinit {pl : Sem Bool} {x : Str} {L : Addr} {mc : Value} (T : LInit X.K L mc) (hg : Gl X x) (hm : X.mg x = some (.ref L)) (ha : PA X (e :: es) ta)
    (hdb : (x == ("__debug__" : Str)) = false := by decide)
    (hc : eval (.Call (.Attribute (.Name x p1) "__init__" p2) (e :: es) [] pos) X.env = (do
      let ov ← eval (.Name x p1) X.env
      standAt p2.atName
      let (f, first) ← holding [ov] (getMethod ov "__init__" pl)
      callWith pos f first (backTo pos (starEach (e :: es) X.env)) (backToKw pos (keywordEach [] X.env))) := by rfl)
    (he : starEach (e :: es) X.env = (false, eval e X.env) :: starEach es X.env := by rfl) (hpl : (backTo pos (starEach es X.env)).any (·.1) = false := by rfl) :
    PE X (.Call (.Attribute (.Name x p1) "__init__" p2) (e :: es) [] pos) (tVeI X.K ta) := by
  refine ⟨fun pins s σ H Q I h => ?_⟩
  refine PySem.W.methodCall_KW (ld_glob I hg hm ?_ hdb) hc
  refine PySem.W.method_cls I.kIn T.ga (PySem.W.cls_value I.kIn T.rd T.at_ (by decide +kernel) ?_)
  show wpAny _ _ (callWith pos (Value.builtin "ValueError.__init__") [] (backTo pos (starEach (e :: es) X.env)) []) _ _ _
  refine PyProof.Rows.callWith_method1 (thn (ha.run pos pins _ σ H _ (I.tok _) h) fun us s1 ⟨vs, H1, I1, r1, a, C, ws, ev, hl, T, ea, q⟩ => ?_) he hpl
  subst ev
  cases r1 with
  | @cons _ u0 _ ur ra rw' =>
    obtain rfl : u0 = Value.ref a := ra
    have hlen : ur.length ≤ sizeLine := by
      rw [← Paired.length rw', sizeLine_eq]
      omega
    exact oinit_ok T I1 ea hlen fun s' J => ⟨.non, H1, J, rfl, q⟩
end

/-- __init__ of one field, of two -/
def spE (K : PySem.W.Frag) (fs : List Str) : Sp := fun vs H Q _ => ∃ (e C : Addr) (ys : List V), vs = .ref e :: ys ∧ ys.length = fs.length ∧ OexC K C ∧ (∀ f ∈ fs, PySem.W.findIn K (.ref C) f = some none) ∧ H e = some (exo e C none) ∧
  ∀ dx, H dx = none → dx ≠ e → Q .non (upd (upd H dx (exd dx (fs.zip ys).reverse)) e (exo e C (some dx)))
end MP

namespace MP
open PySem PySem.Spec PyProof.Rows L2

/-- deep data: tuples, lists that nobody changes any more, dicts and objects likewise; ref: an object of the store -/
inductive D where
  | non | bl (b : Bool) | int (i : Int) | str (s : Str)
  | tup (xs : List D) | ftup (xs : List D) | lst (xs : List D) | dct (t : Bool) (kvs : List (D × D)) | obj (C : Addr) (fs : List (Str × D)) | exn (C : Addr) (fs : List (Str × D)) | ref (i : Nat)

inductive O where
  | lst (xs : List D) | dct (t : Bool) (kvs : List (D × D)) | ins (C : Addr) (fs : List (Str × D))

abbrev Sto := List O
abbrev Ev := List (Option D)

inductive R (α : Type) where
  | ok (a : α) (S : Sto)
  | exc (C : Addr) (fs : List (Str × D)) (S : Sto)
  | bad
def R.bind {α β : Type} (r : R α) (f : α → Sto → R β) : R β := match r with
  | .ok a S => f a S
  | .exc C fs S => .exc C fs S
  | .bad => .bad
theorem bind_ok {α β : Type} (a : α) (S : Sto) (f : α → Sto → R β) : (R.ok a S).bind f = f a S := rfl
def keyD : Key → D
  | .inl i => .int i
  | .inr s => .str s

/-- at a: an exception of the class at C, its dict (none | at d) -/
def ExV (C : Addr) (d : Option Addr) (a : Addr) : HO := .ext fun h => ∃ (oe : Obj) (vs : Array Value), h.get? a = some oe ∧ Zc (.ref C) d oe ∧ oe.data = .fields vs
/-- at dd: the dict of an exception -/
def XdAt (H : Hp) (dd : Addr) (fs : List (Str × V)) : Prop := H dd = some (exd dd fs) ∨ H dd = some (.xd fs)
theorem XdAt.has {H : Hp} {dd : Addr} {fs : List (Str × V)} (h : XdAt H dd fs) : ∃ o, H dd = some o := by
  rcases h with h | h
  · exact ⟨_, h⟩
  · exact ⟨_, h⟩

mutual
inductive VR (K : PySem.W.Frag) (m : List Addr) (H : Hp) : V → D → Prop where
  | non : VR K m H .non .non
  | bl (b : Bool) : VR K m H (.bl b) (.bl b)
  | int (i : Int) : VR K m H (.int i) (.int i)
  | str (s : Str) : VR K m H (.str s) (.str s)
  | tup {a : Addr} {vs : List V} {ds : List D} (h : H a = some (.tup vs)) (r : VRs K m H vs ds) : VR K m H (.ref a) (.tup ds)
  | ftup {a : Addr} {vs : List V} {ds : List D} {o : Obj} (hd : o.dict = none) (h : H a = some (.frz o (.tup vs))) (r : VRs K m H vs ds) : VR K m H (.ref a) (.ftup ds)
  | lst {a : Addr} {vs : List V} {ds : List D} (n : a ∉ m) (h : Rd H a (.lst vs)) (r : VRs K m H vs ds) : VR K m H (.ref a) (.lst ds)
  | lstK {a : Addr} {vs : List V} {ds : List D} {o : Obj} {its : Array Value} {n : Nat} (hk : K.lookup a = some o) (h1 : o.cls = .type "list") (h2 : o.dict = none) (h3 : o.data = .seq its n) (h4 : its.size ≤ sizeLine) (h5 : Vals vs its.toList) (r : VRs K m H vs ds) : VR K m H (.ref a) (.lst ds)
  | dct {a : Addr} {vs : List (Key × V)} {ds : List (D × D)} (n : a ∉ m) (h : H a = some (.dK vs)) (r : VDk K m H vs ds) : VR K m H (.ref a) (.dct false ds)
  | dctT {a : Addr} {vs : List (List Key × V)} {ds : List (D × D)} (n : a ∉ m) (h : H a = some (.dT vs)) (r : VDt K m H vs ds) : VR K m H (.ref a) (.dct true ds)
  | obj {a C dx : Addr} {fs : List (Str × V)} {gs : List (Str × D)} (n : a ∉ m) (h : H a = some (.ins C dx fs)) (r : VFs K m H fs gs) : VR K m H (.ref a) (.obj C gs)
  | exn0 {a C : Addr} (n : a ∉ m) (h : H a = some (ExV C none a)) : VR K m H (.ref a) (.exn C [])
  | exnD {a C dd : Addr} {fs : List (Str × V)} {gs : List (Str × D)} (n : a ∉ m) (nd : dd ∉ m) (h : H a = some (ExV C (some dd) a)) (hd : XdAt H dd fs) (r : VFs K m H fs gs) : VR K m H (.ref a) (.exn C gs)
  | ref {i : Nat} {a : Addr} (h : m[i]? = some a) : VR K m H (.ref a) (.ref i)
inductive VRs (K : PySem.W.Frag) (m : List Addr) (H : Hp) : List V → List D → Prop where
  | nil : VRs K m H [] []
  | cons {v : V} {d : D} {vs : List V} {ds : List D} (h : VR K m H v d) (r : VRs K m H vs ds) : VRs K m H (v :: vs) (d :: ds)
inductive VFs (K : PySem.W.Frag) (m : List Addr) (H : Hp) : List (Str × V) → List (Str × D) → Prop where
  | nil : VFs K m H [] []
  | cons {f : Str} {v : V} {d : D} {vs : List (Str × V)} {ds : List (Str × D)} (h : VR K m H v d) (r : VFs K m H vs ds) : VFs K m H ((f, v) :: vs) ((f, d) :: ds)
inductive VDk (K : PySem.W.Frag) (m : List Addr) (H : Hp) : List (Key × V) → List (D × D) → Prop where
  | nil : VDk K m H [] []
  | cons {k : Key} {v : V} {d : D} {vs : List (Key × V)} {ds : List (D × D)} (h : VR K m H v d) (r : VDk K m H vs ds) : VDk K m H ((k, v) :: vs) ((keyD k, d) :: ds)
inductive VDt (K : PySem.W.Frag) (m : List Addr) (H : Hp) : List (List Key × V) → List (D × D) → Prop where
  | nil : VDt K m H [] []
  | cons {k : List Key} {v : V} {d : D} {vs : List (List Key × V)} {ds : List (D × D)} (h : VR K m H v d) (r : VDt K m H vs ds) : VDt K m H ((k, v) :: vs) ((.tup (k.map keyD), d) :: ds)
end

/-- from (m, H) on: the store's places stay and grow by new ones; what is not in the store stays -/
structure Ext (m : List Addr) (H : Hp) (m' : List Addr) (H' : Hp) : Prop where
  pre : ∃ l, m' = m ++ l
  new : ∀ a ∈ m', a ∈ m ∨ H a = none
  keep : ∀ a o, a ∉ m → H a = some o → H' a = some o

inductive OR (K : PySem.W.Frag) (m : List Addr) (H : Hp) (a : Addr) : O → Prop where
  | lst {vs : List V} {ds : List D} (h : H a = some (.lst vs)) (r : VRs K m H vs ds) : OR K m H a (.lst ds)
  | dct {vs : List (Key × V)} {ds : List (D × D)} (h : H a = some (.dK vs)) (r : VDk K m H vs ds) : OR K m H a (.dct false ds)
  | dctT {vs : List (List Key × V)} {ds : List (D × D)} (h : H a = some (.dT vs)) (r : VDt K m H vs ds) : OR K m H a (.dct true ds)
  | ins {C dx : Addr} {fs : List (Str × V)} {gs : List (Str × D)} (h : H a = some (.ins C dx fs)) (r : VFs K m H fs gs) : OR K m H a (.ins C gs)

structure SR (K : PySem.W.Frag) (m : List Addr) (H : Hp) (S : Sto) : Prop where
  nd : m.Nodup
  len : m.length = S.length
  at_ : ∀ (i : Nat) (a : Addr) (o : O), m[i]? = some a → S[i]? = some o → OR K m H a o

theorem OR.mut {K : PySem.W.Frag} {m : List Addr} {H : Hp} {a : Addr} {o : O} (h : OR K m H a o) : Mut (H a) := by
  cases h with
  | lst h _ => rw [h]; trivial
  | dct h _ => rw [h]; trivial
  | dctT h _ => rw [h]; trivial
  | ins h _ => rw [h]; trivial
theorem SR.mut {K : PySem.W.Frag} {m : List Addr} {H : Hp} {S : Sto} (x : SR K m H S) {a : Addr} (h : a ∈ m) : Mut (H a) := by
  obtain ⟨i, hi, e⟩ := List.mem_iff_getElem.mp h
  have hs : i < S.length := x.len ▸ hi
  exact (x.at_ i a S[i] (by rw [List.getElem?_eq_getElem hi, e]) (List.getElem?_eq_getElem hs)).mut
theorem not_mut_tup {H : Hp} {a : Addr} {xs : List V} (h : Rd H a (.tup xs)) : ¬ Mut (H a) := by
  rcases h with h | ⟨o, h⟩
  · rw [h]; exact fun z => z
  · rw [h]; exact fun z => z
theorem Ext.refl {m : List Addr} {H : Hp} : Ext m H m H := ⟨⟨[], by simp⟩, fun a h => .inl h, fun _ _ _ h => h⟩
theorem Ext.sub {m m' : List Addr} {H H' : Hp} (e : Ext m H m' H') {a : Addr} (h : a ∈ m) : a ∈ m' := by
  obtain ⟨l, e⟩ := e.pre
  rw [e]; exact List.mem_append_left _ h
theorem Ext.trans {m m1 m2 : List Addr} {H H1 H2 : Hp} (a : Ext m H m1 H1) (b : Ext m1 H1 m2 H2) : Ext m H m2 H2 := by
  have key : ∀ c o, c ∉ m → H c = some o → c ∉ m1 := fun c o n e z => by
    rcases a.new c z with y | y
    · exact n y
    · rw [y] at e; cases e
  refine ⟨?_, fun c hc => ?_, fun c o n e => b.keep c o (key c o n e) (a.keep c o n e)⟩
  · obtain ⟨l, e⟩ := a.pre
    obtain ⟨k, f⟩ := b.pre
    exact ⟨l ++ k, by rw [f, e, List.append_assoc]⟩
  · by_cases hm : c ∈ m
    · exact .inl hm
    · right
      cases q : H c with
      | none => rfl
      | some o =>
        rcases b.new c hc with y | y
        · exact absurd y (key c o hm q)
        · rw [a.keep c o hm q] at y; cases y
theorem Ext.rd {m m' : List Addr} {H H' : Hp} (e : Ext m H m' H') {a : Addr} {u : HO} (n : a ∉ m) (h : Rd H a u) : Rd H' a u := by
  rcases h with h | ⟨o, h⟩
  · exact .inl (e.keep a _ n h)
  · exact .inr ⟨o, e.keep a _ n h⟩
theorem Rd.has {H : Hp} {a : Addr} {u : HO} (h : Rd H a u) : ∃ o, H a = some o := by
  rcases h with h | ⟨o, h⟩
  · exact ⟨_, h⟩
  · exact ⟨_, h⟩
theorem Ext.nin {m m' : List Addr} {H H' : Hp} (e : Ext m H m' H') {a : Addr} (n : a ∉ m) (h : ∃ o, H a = some o) : a ∉ m' := fun z => by
  obtain ⟨o, h⟩ := h
  rcases e.new a z with y | y
  · exact n y
  · rw [y] at h; cases h
theorem Ext.get {m m' : List Addr} {H H' : Hp} (e : Ext m H m' H') {i : Nat} {a : Addr} (h : m[i]? = some a) : m'[i]? = some a := by
  obtain ⟨l, e⟩ := e.pre
  rw [e, List.getElem?_append_left (List.getElem?_eq_some_iff.mp h).1]
  exact h

section
variable {K : PySem.W.Frag} {m m' : List Addr} {H H' : Hp}
theorem frz_ext (e : Ext m H m' H') (mu : ∀ a ∈ m, Mut (H a)) {a : Addr} {o : Obj} {vs : List V} (h : H a = some (.frz o (.tup vs))) : H' a = some (.frz o (.tup vs)) :=
  e.keep _ _ (fun z => not_mut_tup (.inr ⟨o, h⟩) (mu a z)) h
theorem Rd.sup {H Hx : Hp} {a : Addr} {u : HO} (sup : ∀ b o, H b = some o → Hx b = some o) (h : Rd H a u) : Rd Hx a u := h.imp (sup _ _) fun ⟨o, e⟩ => ⟨o, sup _ _ e⟩
theorem SqT.rd {K : PySem.W.Frag} {H : Hp} {a : Addr} {xs : List V} (h : Rd H a (.tup xs)) : SqT K H a xs := .inl h
theorem tup_ext (e : Ext m H m' H') (mu : ∀ a ∈ m, Mut (H a)) {a : Addr} {vs : List V} (h : H a = some (.tup vs)) : H' a = some (.tup vs) :=
  e.keep _ _ (fun z => not_mut_tup (.inl h) (mu a z)) h
mutual
theorem VR.ext (e : Ext m H m' H') (mu : ∀ a ∈ m, Mut (H a)) {v : V} {d : D} : VR K m H v d → VR K m' H' v d
  | .non => .non
  | .bl b => .bl b
  | .int i => .int i
  | .str s => .str s
  | .tup h r => .tup (tup_ext e mu h) (VRs.ext e mu r)
  | .ftup hd h r => .ftup hd (frz_ext e mu h) (VRs.ext e mu r)
  | .lst n h r => .lst (e.nin n (Rd.has h)) (e.rd n h) (VRs.ext e mu r)
  | .lstK hk h1 h2 h3 h4 h5 r => .lstK hk h1 h2 h3 h4 h5 (VRs.ext e mu r)
  | .dct n h r => .dct (e.nin n ⟨_, h⟩) (e.keep _ _ n h) (VDk.ext e mu r)
  | .dctT n h r => .dctT (e.nin n ⟨_, h⟩) (e.keep _ _ n h) (VDt.ext e mu r)
  | .obj n h r => .obj (e.nin n ⟨_, h⟩) (e.keep _ _ n h) (VFs.ext e mu r)
  | .exn0 n h => .exn0 (e.nin n ⟨_, h⟩) (e.keep _ _ n h)
  | .exnD n nd h hd r => .exnD (e.nin n ⟨_, h⟩) (e.nin nd hd.has) (e.keep _ _ n h) (hd.imp (e.keep _ _ nd) (e.keep _ _ nd)) (VFs.ext e mu r)
  | .ref h => .ref (e.get h)
theorem VRs.ext (e : Ext m H m' H') (mu : ∀ a ∈ m, Mut (H a)) {v : List V} {d : List D} : VRs K m H v d → VRs K m' H' v d
  | .nil => .nil
  | .cons h r => .cons (VR.ext e mu h) (VRs.ext e mu r)
theorem VFs.ext (e : Ext m H m' H') (mu : ∀ a ∈ m, Mut (H a)) {v : List (Str × V)} {d : List (Str × D)} : VFs K m H v d → VFs K m' H' v d
  | .nil => .nil
  | .cons h r => .cons (VR.ext e mu h) (VFs.ext e mu r)
theorem VDk.ext (e : Ext m H m' H') (mu : ∀ a ∈ m, Mut (H a)) {v : List (Key × V)} {d : List (D × D)} : VDk K m H v d → VDk K m' H' v d
  | .nil => .nil
  | .cons h r => .cons (VR.ext e mu h) (VDk.ext e mu r)
theorem VDt.ext (e : Ext m H m' H') (mu : ∀ a ∈ m, Mut (H a)) {v : List (List Key × V)} {d : List (D × D)} : VDt K m H v d → VDt K m' H' v d
  | .nil => .nil
  | .cons h r => .cons (VR.ext e mu h) (VDt.ext e mu r)
end
end

/-- the slots -/
structure ER (K : PySem.W.Frag) (m : List Addr) (H : Hp) (σ : L2.St) (ρ : Ev) : Prop where
  at_ : ∀ (i : Nat) (d : D), ρ[i]? = some (some d) → ∃ v, σ[i]? = some (some v) ∧ VR K m H v d
  len : ρ.length = σ.length
theorem ER.ext {K : PySem.W.Frag} {m m' : List Addr} {H H' : Hp} {σ : L2.St} {ρ : Ev} (r : ER K m H σ ρ) (e : Ext m H m' H') (mu : ∀ a ∈ m, Mut (H a)) : ER K m' H' σ ρ := ⟨fun i d h => by
  obtain ⟨v, h1, h2⟩ := r.at_ i d h
  exact ⟨v, h1, h2.ext e mu⟩, r.len⟩
theorem ER.set {K : PySem.W.Frag} {m : List Addr} {H : Hp} {σ : L2.St} {ρ : Ev} (r : ER K m H σ ρ) {i : Nat} {v : V} {d : D} (h : VR K m H v d) : ER K m H (σ.set i (some v)) (ρ.set i (some d)) := ⟨fun j d' e => by
  have hl := r.len
  by_cases hj : i = j
  · subst hj
    have hi : i < ρ.length := by
      have := (List.getElem?_eq_some_iff.mp e).1
      simpa using this
    rw [List.getElem?_set_self hi] at e
    cases e
    exact ⟨v, by rw [List.getElem?_set_self (by omega)], h⟩
  · rw [List.getElem?_set_ne hj] at e ⊢
    exact r.at_ j d' e, by simp [r.len]⟩

/-- what an expression is worth -/
abbrev LE := Ev → Sto → R D
/-- behind an expression -/
def VP (X : Cx) (pins : List (Addr × Obj)) (σ : L2.St) (m : List Addr) (H : Hp) (d : D) (S' : Sto) (u : Value) (s' : Shared) : Prop :=
  ∃ v H' m', Inv X pins σ H' s' ∧ RelV v u ∧ Ext m H m' H' ∧ SR X.K m' H' S' ∧ VR X.K m' H' v d
def VPr (X : Cx) (pins : List (Addr × Obj)) (σ : L2.St) (m : List Addr) (H : Hp) (r : R D) (u : Value) (s' : Shared) : Prop := ∃ d S', r = .ok d S' ∧ VP X pins σ m H d S' u s'
/-- the dict of an exception, or none -/
def XD (K : PySem.W.Frag) (m' : List Addr) (H' : Hp) (d : Option Addr) (fs : List (Str × D)) : Prop := (∃ (dd : Addr) (vs : List (Str × V)), d = some dd ∧ H' dd = some (.xd vs) ∧ VFs K m' H' vs fs) ∨ (d = none ∧ fs = [])
/-- an exception that leaves, by the store -/
def WL (K : PySem.W.Frag) (m : List Addr) (H : Hp) (C : Addr) (fs : List (Str × D)) (S' : Sto) : Value → Option Addr → Hp → Prop := fun cls d H' =>
  cls = .ref C ∧ ∃ (m' : List Addr), XD K m' H' d fs ∧ Ext m H m' H' ∧ SR K m' H' S'
def Hope (X : Cx) (σ : L2.St) (m : List Addr) (H : Hp) {α : Type} (r : R α) : Prop :=
  r ≠ .bad ∧ ∀ C fs S', r = .exc C fs S' → ∀ u s', XE X (fun cls d σ' H' => σ' = σ ∧ WL X.K m H C fs S' cls d H') u s' → X.xe u s'
theorem WL.ext {K : PySem.W.Frag} {m m1 : List Addr} {H H1 : Hp} {C : Addr} {fs : List (Str × D)} {S' : Sto} {cls : Value} {d : Option Addr} {H' : Hp} (e : Ext m H m1 H1) (w : WL K m1 H1 C fs S' cls d H') : WL K m H C fs S' cls d H' := by
  obtain ⟨h1, m', h2, h4, h5⟩ := w
  exact ⟨h1, m', h2, e.trans h4, h5⟩
theorem XE.imp {X : Cx} {W W' : WX} {u : Value} {s' : Shared} (x : XE X W u s') (h : ∀ c d σ H, W c d σ H → W' c d σ H) : XE X W' u s' := by
  obtain ⟨a, B, sI, pins, σ, H, cls, d, e, I, nb, up, sky, na, os, ag, w⟩ := x
  exact ⟨a, B, sI, pins, σ, H, cls, d, e, I, nb, up, sky, na, os, ag, h _ _ _ _ w⟩
theorem Hope.ext {X : Cx} {σ : L2.St} {m m1 : List Addr} {H H1 : Hp} {α : Type} {r : R α} (h : Hope X σ m H r) (e : Ext m H m1 H1) : Hope X σ m1 H1 r :=
  ⟨h.1, fun C fs S' q u s' x => h.2 C fs S' q u s' (XE.imp x fun _ _ _ _ z => ⟨z.1, z.2.ext e⟩)⟩
theorem Hope.ok {X : Cx} {σ : L2.St} {m : List Addr} {H : Hp} {α : Type} {a : α} {S : Sto} : Hope X σ m H (R.ok a S) := ⟨fun z => (nomatch z), fun _ _ _ q => (nomatch q)⟩
theorem Hope.exc {X : Cx} {σ : L2.St} {m : List Addr} {H : Hp} {α β : Type} {C : Addr} {fs : List (Str × D)} {S : Sto} (h : Hope X σ m H (R.exc C fs S : R α)) : Hope X σ m H (R.exc C fs S : R β) :=
  ⟨fun z => (nomatch z), fun C' fs' S' q => by cases q; exact h.2 _ _ _ rfl⟩

structure PEL (X : Cx) (e : Expr) (l : LE) : Prop where
  run : ∀ (pins : List (Addr × Obj)) (s : Shared) (σ : L2.St) (H : Hp) (m : List Addr) (ρ : Ev) (S : Sto), Inv X pins σ H s → SR X.K m H S → ER X.K m H σ ρ → Hope X σ m H (l ρ S) →
    wpAny (model X.prog X.w) X.A (eval e X.env) (VPr X pins σ m H (l ρ S)) X.xe s
/-- a test -/
abbrev LT := Ev → Sto → R Bool
def TPr (X : Cx) (pins : List (Addr × Obj)) (σ : L2.St) (m : List Addr) (H : Hp) (r : R Bool) (b : Bool) (s' : Shared) : Prop :=
  ∃ S' H' m', r = .ok b S' ∧ Inv X pins σ H' s' ∧ Ext m H m' H' ∧ SR X.K m' H' S'
structure PTL (X : Cx) (e : Expr) (l : LT) : Prop where
  run : ∀ (pins : List (Addr × Obj)) (s : Shared) (σ : L2.St) (H : Hp) (m : List Addr) (ρ : Ev) (S : Sto), Inv X pins σ H s → SR X.K m H S → ER X.K m H σ ρ → Hope X σ m H (l ρ S) →
    wpAny (model X.prog X.w) X.A (isTrue e X.env (eval e X.env)) (TPr X pins σ m H (l ρ S)) X.xe s
/-- arguments -/
abbrev LA := Ev → Sto → R (List D)
def APr (X : Cx) (pins : List (Addr × Obj)) (σ : L2.St) (m : List Addr) (H : Hp) (r : R (List D)) (us : List Value) (s' : Shared) : Prop :=
  ∃ ds S' vs H' m', r = .ok ds S' ∧ Inv X pins σ H' s' ∧ Vals vs us ∧ Ext m H m' H' ∧ SR X.K m' H' S' ∧ VRs X.K m' H' vs ds
structure PAL (X : Cx) (es : List Expr) (l : LA) : Prop where
  run : ∀ (pos : Pos) (pins : List (Addr × Obj)) (s : Shared) (σ : L2.St) (H : Hp) (m : List Addr) (ρ : Ev) (S : Sto), Inv X pins σ H s → SR X.K m H S → ER X.K m H σ ρ → Hope X σ m H (l ρ S) →
    wpAny (model X.prog X.w) X.A (spliced (backTo pos (starEach es X.env))) (APr X pins σ m H (l ρ S)) X.xe s
end MP

namespace MP
open PySem PySem.Spec PyProof.Rows L2

section
variable {K : PySem.W.Frag} {m : List Addr} {H : Hp} {S : Sto} {p : Addr} {o : HO}
theorem SR.muts (x : SR K m H S) : ∀ a ∈ m, Mut (H a) := fun _ h => x.mut h
theorem SR.nin (x : SR K m H S) (h : H p = none) : p ∉ m := fun z => by
  have := x.mut z
  rw [h] at this; exact this
theorem Ext.fresh (h : H p = none) : Ext m H m (upd H p o) := ⟨⟨[], by simp⟩, fun a h => .inl h, fun a u _ e => by rw [upd_ne (ne_of_none e h)]; exact e⟩
theorem OR.ext {m' : List Addr} {H' : Hp} {a : Addr} {ob : O} (r : OR K m H a ob) (e : Ext m H m' H') (mu : ∀ a ∈ m, Mut (H a)) (h : H' a = H a) : OR K m' H' a ob := by
  cases r with
  | lst q r => exact .lst (h.trans q) (r.ext e mu)
  | dct q r => exact .dct (h.trans q) (r.ext e mu)
  | dctT q r => exact .dctT (h.trans q) (r.ext e mu)
  | ins q r => exact .ins (h.trans q) (r.ext e mu)
theorem SR.fresh (x : SR K m H S) (h : H p = none) : SR K m (upd H p o) S := ⟨x.nd, x.len, fun i a ob h1 h2 => (x.at_ i a ob h1 h2).ext (Ext.fresh h) x.muts (upd_ne fun z => x.nin h (z ▸ List.mem_iff_getElem?.mpr ⟨i, h1⟩))⟩

/-- what is wanted of a value and the heap behind, by the store -/
def QV (K : PySem.W.Frag) (m : List Addr) (H : Hp) (S' : Sto) (d : D) : VK := fun v H' => ∃ m', Ext m H m' H' ∧ SR K m' H' S' ∧ VR K m' H' v d
theorem qv_same (x : SR K m H S) {v : V} {d : D} (r : VR K m H v d) : QV K m H S d v H := ⟨m, Ext.refl, x, r⟩
theorem qv_new (x : SR K m H S) (h : H p = none) {v : V} {d : D} (r : VR K m (upd H p o) v d) : QV K m H S d v (upd H p o) := ⟨m, Ext.fresh h, x.fresh h, r⟩
theorem VRs.fresh (x : SR K m H S) (h : H p = none) {vs : List V} {ds : List D} (r : VRs K m H vs ds) : VRs K m (upd H p o) vs ds := r.ext (Ext.fresh h) x.muts
theorem VR.fresh (x : SR K m H S) (h : H p = none) {v : V} {d : D} (r : VR K m H v d) : VR K m (upd H p o) v d := r.ext (Ext.fresh h) x.muts
theorem vr_newTup (x : SR K m H S) (h : H p = none) {vs : List V} {ds : List D} (r : VRs K m H vs ds) : VR K m (upd H p (.tup vs)) (.ref p) (.tup ds) := .tup upd_same (r.fresh x h)
theorem vr_newLst (x : SR K m H S) (h : H p = none) {vs : List V} {ds : List D} (r : VRs K m H vs ds) : VR K m (upd H p (.lst vs)) (.ref p) (.lst ds) := .lst (x.nin h) (.inl upd_same) (r.fresh x h)
/-- a new object put into the store -/
theorem SR.snoc (x : SR K m H S) (h : H p = none) {ob : O} (r : ∀ m' H', Ext m H m' H' → H' p = some o → OR K m' H' p ob) : Ext m H (m ++ [p]) (upd H p o) ∧ SR K (m ++ [p]) (upd H p o) (S ++ [ob]) := by
  have e : Ext m H (m ++ [p]) (upd H p o) := ⟨⟨[p], rfl⟩, fun a ha => (List.mem_append.mp ha).imp id fun z => by
    rw [List.mem_singleton.mp z]; exact h, fun a u _ q => by rw [upd_ne (ne_of_none q h)]; exact q⟩
  refine ⟨e, List.nodup_append.mpr ⟨x.nd, by simp, fun a ha b hb z => ?_⟩, by simp [x.len], fun i a u h1 h2 => ?_⟩
  · rw [List.mem_singleton.mp hb] at z
    exact x.nin h (z ▸ ha)
  · by_cases hi : i < m.length
    · rw [List.getElem?_append_left hi] at h1
      rw [List.getElem?_append_left (x.len ▸ hi)] at h2
      exact (x.at_ i a u h1 h2).ext e x.muts (upd_ne fun z => x.nin h (z ▸ List.mem_iff_getElem?.mpr ⟨i, h1⟩))
    · have hl : i = m.length := by
        have := (List.getElem?_eq_some_iff.mp h1).1
        simp at this; omega
      subst hl
      rw [List.getElem?_append_right (Nat.le_refl _)] at h1
      rw [x.len, List.getElem?_append_right (Nat.le_refl _)] at h2
      simp at h1 h2
      subst h1 h2
      exact r _ _ e upd_same
theorem qv_newL (x : SR K m H S) (h : H p = none) {vs : List V} {ds : List D} (r : VRs K m H vs ds) : QV K m H (S ++ [.lst ds]) (.ref S.length) (.ref p) (upd H p (.lst vs)) := by
  obtain ⟨e, q⟩ := x.snoc (o := .lst vs) (ob := .lst ds) h fun m' H' e q => .lst q (r.ext e x.muts)
  exact ⟨_, e, q, .ref (by rw [← x.len]; simp)⟩
theorem VRs.length {vs : List V} {ds : List D} : VRs K m H vs ds → vs.length = ds.length
  | .nil => rfl
  | .cons _ r => by rw [List.length_cons, List.length_cons, r.length]
theorem VRs.append {vs ws : List V} {ds es : List D} : VRs K m H vs ds → VRs K m H ws es → VRs K m H (vs ++ ws) (ds ++ es)
  | .nil, s => s
  | .cons h r, s => .cons h (r.append s)
theorem VRs.take {vs : List V} {ds : List D} : ∀ (n : Nat), VRs K m H vs ds → VRs K m H (vs.take n) (ds.take n)
  | 0, _ => .nil
  | _ + 1, .nil => .nil
  | n + 1, .cons h r => .cons h (VRs.take n r)
theorem VRs.drop {vs : List V} {ds : List D} : ∀ (n : Nat), VRs K m H vs ds → VRs K m H (vs.drop n) (ds.drop n)
  | 0, r => r
  | _ + 1, .nil => .nil
  | n + 1, .cons h r => VRs.drop n r
theorem VRs.getr {vs : List V} {ds : List D} : ∀ {i : Nat} {d : D}, VRs K m H vs ds → ds[i]? = some d → ∃ v, vs[i]? = some v ∧ VR K m H v d
  | _, _, .nil, e => by simp at e
  | 0, _, .cons h _, e => by simp at e; subst e; exact ⟨_, rfl, h⟩
  | i + 1, d, .cons _ r, e => by
    obtain ⟨v, h1, h2⟩ := VRs.getr (i := i) (d := d) r (by simpa using e)
    exact ⟨v, by simpa using h1, h2⟩
theorem VRs.set {v : V} {d : D} (h : VR K m H v d) {vs : List V} {ds : List D} : ∀ (i : Nat), VRs K m H vs ds → VRs K m H (vs.set i v) (ds.set i d)
  | _, .nil => .nil
  | 0, .cons _ r => .cons h r
  | i + 1, .cons q r => .cons q (VRs.set h i r)
theorem VRs.eraseIdx {vs : List V} {ds : List D} : ∀ (i : Nat), VRs K m H vs ds → VRs K m H (vs.eraseIdx i) (ds.eraseIdx i)
  | _, .nil => .nil
  | 0, .cons _ r => r
  | i + 1, .cons q r => .cons q (VRs.eraseIdx i r)
theorem VRs.of_ints {ns : List Int} : VRs K m H (ns.map V.int) (ns.map D.int) := by
  induction ns with
  | nil => exact .nil
  | cons n ns ih => exact .cons (.int n) ih
theorem VRs.of_strs {ns : List Str} : VRs K m H (ns.map V.str) (ns.map D.str) := by
  induction ns with
  | nil => exact .nil
  | cons n ns ih => exact .cons (.str n) ih
end

/-- an object of the store as it stands -/
def vw (S : Sto) : D → D
  | .ref i => match S[i]? with
    | some (.lst xs) => .lst xs
    | some (.dct t kvs) => .dct t kvs
    | some (.ins C fs) => .obj C fs
    | none => .ref i
  | d => d
section
variable {K : PySem.W.Frag} {m : List Addr} {H : Hp} {S : Sto}
theorem vw_lst (x : SR K m H S) {v : V} {d : D} {xs : List D} (r : VR K m H v d) (e : vw S d = .lst xs) : ∃ a vs, v = .ref a ∧ SqL K H a vs ∧ VRs K m H vs xs := by
  cases r with
  | @lst a vs ds n h r => cases e; exact ⟨a, vs, rfl, .inl h, r⟩
  | @lstK a vs ds ob its n hk h1 h2 h3 h4 h5 r => cases e; exact ⟨a, vs, rfl, .inr ⟨ob, its, n, hk, h1, h2, h3, h4, h5⟩, r⟩
  | @ref i a h =>
    dsimp only [vw] at e
    cases q : S[i]? with
    | none => rw [q] at e; cases e
    | some ob =>
      have z := x.at_ i a ob h q
      rw [q] at e
      cases z with
      | lst h r => cases e; exact ⟨a, _, rfl, SqL.of h, r⟩
      | dct _ _ => cases e
      | dctT _ _ => cases e
      | ins _ _ => cases e
  | _ => cases e
theorem vw_tup {v : V} {d : D} {xs : List D} (r : VR K m H v d) (e : vw S d = .tup xs) : ∃ a vs, v = .ref a ∧ H a = some (.tup vs) ∧ VRs K m H vs xs := by
  cases r with
  | @tup a vs ds h r => cases e; exact ⟨a, vs, rfl, h, r⟩
  | @ref i a h =>
    dsimp only [vw] at e
    cases q : S[i]? with
    | none => rw [q] at e; cases e
    | some ob => rw [q] at e; cases ob <;> cases e
  | _ => cases e
theorem vw_ftup {v : V} {d : D} {xs : List D} (r : VR K m H v d) (e : vw S d = .ftup xs) : ∃ a vs, ∃ o : Obj, v = .ref a ∧ o.dict = none ∧ H a = some (.frz o (.tup vs)) ∧ VRs K m H vs xs := by
  cases r with
  | @ftup a vs ds o hd h r => cases e; exact ⟨a, vs, o, rfl, hd, h, r⟩
  | @ref i a h =>
    dsimp only [vw] at e
    cases q : S[i]? with
    | none => rw [q] at e; cases e
    | some ob => rw [q] at e; cases ob <;> cases e
  | _ => cases e
theorem vw_int {v : V} {d : D} {i : Int} (r : VR K m H v d) (e : vw S d = .int i) : v = .int i := by
  cases r with
  | int j => cases e; rfl
  | @ref i a h =>
    dsimp only [vw] at e
    cases q : S[i]? with
    | none => rw [q] at e; cases e
    | some ob => rw [q] at e; cases ob <;> cases e
  | _ => cases e
theorem vw_str {v : V} {d : D} {i : Str} (r : VR K m H v d) (e : vw S d = .str i) : v = .str i := by
  cases r with
  | str j => cases e; rfl
  | @ref i a h =>
    dsimp only [vw] at e
    cases q : S[i]? with
    | none => rw [q] at e; cases e
    | some ob => rw [q] at e; cases ob <;> cases e
  | _ => cases e
theorem vw_bl {v : V} {d : D} {i : Bool} (r : VR K m H v d) (e : vw S d = .bl i) : v = .bl i := by
  cases r with
  | bl j => cases e; rfl
  | @ref i a h =>
    dsimp only [vw] at e
    cases q : S[i]? with
    | none => rw [q] at e; cases e
    | some ob => rw [q] at e; cases ob <;> cases e
  | _ => cases e
theorem vw_obj (x : SR K m H S) {v : V} {d : D} {C : Addr} {gs : List (Str × D)} (r : VR K m H v d) (e : vw S d = .obj C gs) : ∃ a dx fs, v = .ref a ∧ H a = some (.ins C dx fs) ∧ VFs K m H fs gs := by
  cases r with
  | @obj a C dx fs gs n h r => cases e; exact ⟨a, dx, fs, rfl, h, r⟩
  | @ref i a h =>
    dsimp only [vw] at e
    cases q : S[i]? with
    | none => rw [q] at e; cases e
    | some ob =>
      have z := x.at_ i a ob h q
      rw [q] at e
      cases z with
      | ins h r => cases e; exact ⟨a, _, _, rfl, h, r⟩
      | dct _ _ => cases e
      | dctT _ _ => cases e
      | lst _ _ => cases e
  | _ => cases e
end

/-! ### rules by values -/
abbrev G2 := Sto → D → D → Option D
/-- an operation on two values; the store stays -/
structure OpL (X : Cx) (f : Value → Value → Sem Value) (g : G2) : Prop where
  run : ∀ (pins : List (Addr × Obj)) (s : Shared) (σ : L2.St) (H : Hp) (m : List Addr) (S : Sto) (x y : V) (dx dy d : D) (v u : Value), Inv X pins σ H s → SR X.K m H S → VR X.K m H x dx → VR X.K m H y dy → RelV x v → RelV y u → g S dx dy = some d →
    wpAny (model X.prog X.w) X.A (f v u) (VP X pins σ m H d S) X.xe s
theorem vp_of {X : Cx} {pins : List (Addr × Obj)} {σ : L2.St} {m : List Addr} {H : Hp} {S : Sto} {d : D} {u : Value} {s' : Shared} (h : EP X pins σ (QV X.K m H S d) u s') : VP X pins σ m H d S u s' := by
  obtain ⟨v, H', I, r, m', e, q, w⟩ := h
  exact ⟨v, H', m', I, r, e, q, w⟩
theorem OpL.of {X : Cx} {f : Value → Value → Sem Value} {r : R2} {g : G2} (h : OpR X f r)
    (hg : ∀ (H : Hp) (m : List Addr) (S : Sto) (x y : V) (dx dy d : D), SR X.K m H S → VR X.K m H x dx → VR X.K m H y dy → g S dx dy = some d → r x y H (QV X.K m H S d)) : OpL X f g :=
  ⟨fun pins s σ H m S x y dx dy d v u I q rx ry ex ey e => thn (h pins s σ H x y v u _ I ex ey (hg H m S x y dx dy d q rx ry e)) fun _ _ z => vp_of z⟩
theorem OpL.or {X : Cx} {f : Value → Value → Sem Value} {g g' : G2} (h : OpL X f g) (h' : OpL X f g') : OpL X f (fun S x y => (g S x y).or (g' S x y)) :=
  ⟨fun pins s σ H m S x y dx dy d v u I q rx ry ex ey e => by
    cases z : g S dx dy with
    | some d' =>
      rw [z] at e
      cases e
      exact h.run pins s σ H m S x y dx dy _ v u I q rx ry ex ey z
    | none =>
      rw [z] at e
      exact h'.run pins s σ H m S x y dx dy _ v u I q rx ry ex ey e⟩

def g2I (f : Int → Int → Option D) : G2 := fun S x y => match vw S x, vw S y with
  | .int i, .int j => f i j
  | _, _ => none
def g2S (f : Str → Str → Option D) : G2 := fun S x y => match vw S x, vw S y with
  | .str i, .str j => f i j
  | _, _ => none
def g2T (f : List D → List D → Option D) : G2 := fun S x y => match vw S x, vw S y with
  | .tup i, .tup j => f i j
  | _, _ => none
def g2L (f : List D → List D → Option D) : G2 := fun S x y => match vw S x, vw S y with
  | .lst i, .lst j => f i j
  | _, _ => none
theorem g2I_inv {f : Int → Int → Option D} {S : Sto} {x y d : D} (h : g2I f S x y = some d) : ∃ i j, vw S x = .int i ∧ vw S y = .int j ∧ f i j = some d := by
  unfold g2I at h
  split at h
  · exact ⟨_, _, ‹_›, ‹_›, h⟩
  · cases h
theorem g2S_inv {f : Str → Str → Option D} {S : Sto} {x y d : D} (h : g2S f S x y = some d) : ∃ i j, vw S x = .str i ∧ vw S y = .str j ∧ f i j = some d := by
  unfold g2S at h
  split at h
  · exact ⟨_, _, ‹_›, ‹_›, h⟩
  · cases h
theorem g2T_inv {f : List D → List D → Option D} {S : Sto} {x y d : D} (h : g2T f S x y = some d) : ∃ i j, vw S x = .tup i ∧ vw S y = .tup j ∧ f i j = some d := by
  unfold g2T at h
  split at h
  · exact ⟨_, _, ‹_›, ‹_›, h⟩
  · cases h
theorem g2L_inv {f : List D → List D → Option D} {S : Sto} {x y d : D} (h : g2L f S x y = some d) : ∃ i j, vw S x = .lst i ∧ vw S y = .lst j ∧ f i j = some d := by
  unfold g2L at h
  split at h
  · exact ⟨_, _, ‹_›, ‹_›, h⟩
  · cases h
section
variable {X : Cx}
/-- ints, under a condition -/
theorem opl_int {f : Value → Value → Sem Value} {C : Int → Int → Prop} {g : Int → Int → V} {g' : Int → Int → Option D} (h : OpR X f (rI C g)) (hg : ∀ i j d, g' i j = some d → C i j ∧ ∀ K m H, VR K m H (g i j) d) : OpL X f (g2I g') :=
  .of h fun H m S x y dx dy d q rx ry e => by
    obtain ⟨i, j, e1, e2, e3⟩ := g2I_inv e
    obtain ⟨c, z⟩ := hg i j d e3
    exact ⟨i, j, vw_int rx e1, vw_int ry e2, c, qv_same q (z _ _ _)⟩
theorem opl_int0 {f : Value → Value → Sem Value} {g : Int → Int → V} {g' : Int → Int → D} (h : OpR X f (rI0 g)) (hg : ∀ i j K m H, VR K m H (g i j) (g' i j)) : OpL X f (g2I fun i j => some (g' i j)) :=
  .of h fun H m S x y dx dy d q rx ry e => by
    obtain ⟨i, j, e1, e2, e3⟩ := g2I_inv e
    cases e3
    exact ⟨i, j, vw_int rx e1, vw_int ry e2, qv_same q (hg _ _ _ _ _)⟩

def gCat : G2 := g2T fun a b => if a.length + b.length ≤ sizeLine then some (.tup (a ++ b)) else none
def gCatL : G2 := g2L fun a b => if a.length + b.length ≤ sizeLine then some (.lst (a ++ b)) else none
def gAddI : G2 := g2I fun i j => some (.int (i + j))
def gAddS : G2 := g2S fun a b => if a.length + b.length ≤ sizeLine then some (.str (a ++ b)) else none
theorem opl_addI : OpL X (binaryOp .Add) gAddI := opl_int0 op_add fun i j _ _ _ => .int _
theorem opl_addS : OpL X (binaryOp .Add) gAddS := .of op_add_str fun H m S x y dx dy d q rx ry e => by
  obtain ⟨i, j, e1, e2, e3⟩ := g2S_inv e
  split at e3
  · cases e3
    exact ⟨i, j, vw_str rx e1, vw_str ry e2, ‹_›, qv_same q (.str _)⟩
  · cases e3
theorem VRs.nil_iff {K : PySem.W.Frag} {m : List Addr} {H : Hp} {vs : List V} {ds : List D} (r : VRs K m H vs ds) : vs = [] ↔ ds = [] := by
  cases r <;> simp
theorem opl_catT : OpL X (binaryOp .Add) gCat := .of op_catA fun H m S x y dx dy d q rx ry e => by
  obtain ⟨i, j, e1, e2, e3⟩ := g2T_inv e
  split at e3
  · cases e3
    obtain ⟨a, xs, rfl, ha, r1⟩ := vw_tup rx e1
    obtain ⟨b, ys, rfl, hb, r2⟩ := vw_tup ry e2
    refine ⟨a, b, xs, ys, rfl, rfl, SqT.of ha, SqT.of hb, by rw [r1.length, r2.length]; assumption, ?_⟩
    refine ⟨fun z => ?_, fun z z' => ?_, fun z z' p hp => ?_⟩
    · have z1 := r1.nil_iff.mp z
      subst z1
      exact qv_same q (.tup hb (by simpa using r2))
    · have z1 := r2.nil_iff.mp z'
      subst z1
      exact qv_same q (.tup ha (by simpa using r1))
    · exact qv_new q hp (vr_newTup q hp (r1.append r2))
  · cases e3
end
end MP

namespace MP
open PySem PySem.Spec PyProof.Rows L2

section
variable {X : Cx} {pins : List (Addr × Obj)} {σ : L2.St} {m m1 : List Addr} {H H1 : Hp} {ρ : Ev} {S S1 : Sto} {s : Shared}
theorem VPr.left {r : R D} {u : Value} {s' : Shared} (e : Ext m H m1 H1) (h : VPr X pins σ m1 H1 r u s') : VPr X pins σ m H r u s' := by
  obtain ⟨d, S', q, v, H', m', I, rv, e', x, w⟩ := h
  exact ⟨d, S', q, v, H', m', I, rv, e.trans e', x, w⟩
theorem TPr.left {r : R Bool} {u : Bool} {s' : Shared} (e : Ext m H m1 H1) (h : TPr X pins σ m1 H1 r u s') : TPr X pins σ m H r u s' := by
  obtain ⟨S', H', m', q, I, e', x⟩ := h
  exact ⟨S', H', m', q, I, e.trans e', x⟩
theorem APr.left {r : R (List D)} {u : List Value} {s' : Shared} (e : Ext m H m1 H1) (h : APr X pins σ m1 H1 r u s') : APr X pins σ m H r u s' := by
  obtain ⟨ds, S', vs, H', m', q, I, rv, e', x, w⟩ := h
  exact ⟨ds, S', vs, H', m', q, I, rv, e.trans e', x, w⟩
theorem vpr_of {d : D} {S' : Sto} {u : Value} {s' : Shared} (h : VP X pins σ m H d S' u s') : VPr X pins σ m H (.ok d S') u s' := ⟨d, S', rfl, h⟩

/-- an expression, then what goes on -/
theorem run_seq {α : Type} {e : Expr} {l : LE} (h : PEL X e l) (I : Inv X pins σ H s) (x : SR X.K m H S) (r : ER X.K m H σ ρ) {f : D → Sto → R α} (hp : Hope X σ m H ((l ρ S).bind f)) {Q : Value → Shared → Prop}
    (k : ∀ d S1, l ρ S = .ok d S1 → ∀ v u s1 H1 m1, Inv X pins σ H1 s1 → RelV v u → Ext m H m1 H1 → SR X.K m1 H1 S1 → VR X.K m1 H1 v d → ER X.K m1 H1 σ ρ → Hope X σ m1 H1 (f d S1) → Q u s1) :
    wpAny (model X.prog X.w) X.A (eval e X.env) Q X.xe s := by
  cases q : l ρ S with
  | bad => rw [q] at hp; exact absurd rfl hp.1
  | exc C fs S' =>
    rw [q] at hp
    have z := h.run pins s σ H m ρ S I x r (by rw [q]; exact hp.exc)
    rw [q] at z
    exact thn z fun u s' ⟨d, S2, e, _⟩ => nomatch e
  | ok d S1 =>
    rw [q] at hp
    have z := h.run pins s σ H m ρ S I x r (by rw [q]; exact Hope.ok)
    rw [q] at z
    refine thn z fun u s1 ⟨d', S2, e, v, H1, m1, I1, rv, ex, x1, w⟩ => ?_
    cases e
    exact k d S1 q v u s1 H1 m1 I1 rv ex x1 w (r.ext ex x.muts) (Hope.ext hp ex)
theorem run_seqT {α : Type} {e : Expr} {l : LT} (h : PTL X e l) (I : Inv X pins σ H s) (x : SR X.K m H S) (r : ER X.K m H σ ρ) {f : Bool → Sto → R α} (hp : Hope X σ m H ((l ρ S).bind f)) {Q : Bool → Shared → Prop}
    (k : ∀ b S1, l ρ S = .ok b S1 → ∀ s1 H1 m1, Inv X pins σ H1 s1 → Ext m H m1 H1 → SR X.K m1 H1 S1 → ER X.K m1 H1 σ ρ → Hope X σ m1 H1 (f b S1) → Q b s1) :
    wpAny (model X.prog X.w) X.A (isTrue e X.env (eval e X.env)) Q X.xe s := by
  cases q : l ρ S with
  | bad => rw [q] at hp; exact absurd rfl hp.1
  | exc C fs S' =>
    rw [q] at hp
    have z := h.run pins s σ H m ρ S I x r (by rw [q]; exact hp.exc)
    rw [q] at z
    exact thn z fun u s' ⟨S2, H', m', e, _⟩ => nomatch e
  | ok d S1 =>
    rw [q] at hp
    have z := h.run pins s σ H m ρ S I x r (by rw [q]; exact Hope.ok)
    rw [q] at z
    refine thn z fun u s1 ⟨S2, H1, m1, e, I1, ex, x1⟩ => ?_
    cases e
    exact k d S1 q s1 H1 m1 I1 ex x1 (r.ext ex x.muts) (Hope.ext hp ex)
theorem run_seqA {α : Type} {es : List Expr} {l : LA} {pos : Pos} (h : PAL X es l) (I : Inv X pins σ H s) (x : SR X.K m H S) (r : ER X.K m H σ ρ) {f : List D → Sto → R α} (hp : Hope X σ m H ((l ρ S).bind f)) {Q : List Value → Shared → Prop}
    (k : ∀ ds S1, l ρ S = .ok ds S1 → ∀ vs us s1 H1 m1, Inv X pins σ H1 s1 → Vals vs us → Ext m H m1 H1 → SR X.K m1 H1 S1 → VRs X.K m1 H1 vs ds → ER X.K m1 H1 σ ρ → Hope X σ m1 H1 (f ds S1) → Q us s1) :
    wpAny (model X.prog X.w) X.A (spliced (backTo pos (starEach es X.env))) Q X.xe s := by
  cases q : l ρ S with
  | bad => rw [q] at hp; exact absurd rfl hp.1
  | exc C fs S' =>
    rw [q] at hp
    have z := h.run pos pins s σ H m ρ S I x r (by rw [q]; exact hp.exc)
    rw [q] at z
    exact thn z fun u s' ⟨ds, S2, vs, H', m', e, _⟩ => nomatch e
  | ok d S1 =>
    rw [q] at hp
    have z := h.run pos pins s σ H m ρ S I x r (by rw [q]; exact Hope.ok)
    rw [q] at z
    refine thn z fun u s1 ⟨ds, S2, vs, H1, m1, e, I1, rv, ex, x1, w⟩ => ?_
    cases e
    exact k d S1 q vs u s1 H1 m1 I1 rv ex x1 w (r.ext ex x.muts) (Hope.ext hp ex)
end

section
variable {X : Cx} {a b c e : Expr} {la lb lc l : LE} {pos : Pos}
def lVar (i : Nat) : LE := fun ρ S => match ρ[i]? with
  | some (some d) => .ok d S
  | _ => .bad
theorem pel_var {i : Nat} {x : Str} (hN : X.N[i]? = some x := by rfl) (hv : Vis X.env.scope x := by first | exact Or.inl rfl | exact Or.inr (Or.inl rfl) | exact Or.inr (Or.inr rfl)) (hd : (x == ("__debug__" : Str)) = false := by decide) (hcd : (x == ("__classdict__" : Str)) = false := by decide) :
    PEL X (.Name x pos) (lVar i) := by
  refine ⟨fun pins s σ H m ρ S I x r hp => ?_⟩
  unfold lVar at hp ⊢
  split at hp
  · rename_i d e
    obtain ⟨v, h1, h2⟩ := r.at_ i d e
    exact thn ((pe_var hN hv hd hcd).run pins s σ H (QV X.K m H S d) I ⟨v, h1, qv_same x h2⟩) fun u s' q => vpr_of (vp_of q)
  · exact absurd rfl hp.1
/-- an expression of the layer whose value is known -/
def lC (d : D) : LE := fun _ S => .ok d S
theorem pel_c {v : V} {d : D} (h : PE X e (tC v)) (hv : ∀ K m H, VR K m H v d) : PEL X e (lC d) :=
  ⟨fun pins s σ H m ρ S I x r hp => thn (h.run pins s σ H (QV X.K m H S d) I (qv_same x (hv _ _ _))) fun u s' q => vpr_of (vp_of q)⟩
theorem pel_int {i : Int} {j : Nat} : PEL X (.Constant (.int i) j pos) (lC (.int i)) := pel_c pe_int fun _ _ _ => .int i
theorem pel_bl {i : Bool} {j : Nat} : PEL X (.Constant (.bool i) j pos) (lC (.bl i)) := pel_c pe_bl fun _ _ _ => .bl i
theorem pel_non {j : Nat} : PEL X (.Constant .none j pos) (lC .non) := pel_c pe_non fun _ _ _ => .non
theorem pel_str {i : Str} {j : Nat} : PEL X (.Constant (.str i) j pos) (lC (.str i)) := pel_c pe_str fun _ _ _ => .str i
/-- a module's constant -/
theorem pel_gint {x : Str} {i : Int} {t : Tok} (hg : Gl X x) (hm : X.mg x = some (.int i t)) (hd : (x == ("__debug__" : Str)) = false := by decide) : PEL X (.Name x pos) (lC (.int i)) := pel_c (pe_glob hg hm (v := .int i) ⟨_, rfl⟩ hd) fun _ _ _ => .int i
theorem pel_gstr {x i : Str} {t : Tok} (hg : Gl X x) (hm : X.mg x = some (.str i t)) (hd : (x == ("__debug__" : Str)) = false := by decide) : PEL X (.Name x pos) (lC (.str i)) := pel_c (pe_glob hg hm (v := .str i) ⟨_, rfl⟩ hd) fun _ _ _ => .str i

def lift1 (o : Option D) (S : Sto) : R D := match o with
  | some d => .ok d S
  | none => .bad
def lBin (g : G2) (la lb : LE) : LE := fun ρ S => (la ρ S).bind fun x S1 => (lb ρ S1).bind fun y S2 => lift1 (g S2 x y) S2
theorem lift_ok {o : Option D} {S : Sto} {X : Cx} {σ : L2.St} {m : List Addr} {H : Hp} (h : Hope X σ m H (lift1 o S)) : ∃ d, o = some d := by
  cases o with
  | none => exact absurd rfl h.1
  | some d => exact ⟨d, rfl⟩
theorem run_bin {g : G2} {f : Value → Value → Sem Value} (ha : PEL X a la) (hb : PEL X b lb) (ho : OpL X f g) {pins : List (Addr × Obj)} {s : Shared} {σ : L2.St} {H : Hp} {m : List Addr} {ρ : Ev} {S : Sto} (I : Inv X pins σ H s) (x : SR X.K m H S) (r : ER X.K m H σ ρ) (hp : Hope X σ m H (lBin g la lb ρ S)) :
    wpAny (model X.prog X.w) X.A (eval a X.env) (fun v s₁ => wpAny (model X.prog X.w) X.A (eval b X.env) (fun u s₂ => wpAny (model X.prog X.w) X.A (f v u) (VPr X pins σ m H (lBin g la lb ρ S)) X.xe s₂) X.xe s₁) X.xe s := by
  refine run_seq ha I x r hp fun dx S1 q1 v u s1 H1 m1 I1 rv e1 x1 w1 r1 hp1 => ?_
  refine run_seq hb I1 x1 r1 hp1 fun dy S2 q2 v2 u2 s2 H2 m2 I2 rv2 e2 x2 w2 r2 hp2 => ?_
  obtain ⟨d, q3⟩ := lift_ok hp2
  have e : lBin g la lb ρ S = .ok d S2 := by
    unfold lBin; rw [q1, bind_ok, q2, bind_ok, q3]; rfl
  rw [e]
  exact thn (ho.run pins s2 σ H2 m2 S2 v v2 dx dy d u u2 I2 x2 (w1.ext e2 x1.muts) w2 rv rv2 q3) fun _ _ z => (vpr_of z).left (e1.trans e2)
theorem pel_op {op : Operator} {g : G2} (ho : OpL X (binaryOp op) g) (ha : PEL X a la) (hb : PEL X b lb) : PEL X (.BinOp a op b pos) (lBin g la lb) :=
  ⟨fun pins s σ H m ρ S I x r hp => wpAny_BinOp (run_bin ha hb ho I x r hp)⟩
theorem pel_cmp {op : CmpOp} {g : G2} (ho : OpL X (compareOp op) g) (ha : PEL X a la) (hb : PEL X b lb) (hm : behindInMarks op b = false := by first | exact nobehind _ (by decide) (by decide) | rfl) : PEL X (.Compare a [op] [b] pos) (lBin g la lb) :=
  ⟨fun pins s σ H m ρ S I x r hp => wpAny_Compare1 (run_bin ha hb ho I x r hp) hm⟩
/-- a one-place operation -/
structure UnL (X : Cx) (f : Value → Sem Value) (g : Sto → D → Option D) : Prop where
  run : ∀ (pins : List (Addr × Obj)) (s : Shared) (σ : L2.St) (H : Hp) (m : List Addr) (S : Sto) (x : V) (dx d : D) (v : Value), Inv X pins σ H s → SR X.K m H S → VR X.K m H x dx → RelV x v → g S dx = some d →
    wpAny (model X.prog X.w) X.A (f v) (VP X pins σ m H d S) X.xe s
def lUn (g : Sto → D → Option D) (la : LE) : LE := fun ρ S => (la ρ S).bind fun x S1 => lift1 (g S1 x) S1
theorem pel_un {op : UnaryOp} {g : Sto → D → Option D} (ho : UnL X (unaryOp op) g) (ha : PEL X a la) : PEL X (.UnaryOp op a pos) (lUn g la) := by
  refine ⟨fun pins s σ H m ρ S I x r hp => ?_⟩
  refine UnaryOp_ (run_seq ha I x r hp fun dx S1 q1 v u s1 H1 m1 I1 rv e1 x1 w1 r1 hp1 => ?_)
  obtain ⟨d, q3⟩ := lift_ok hp1
  have e : lUn g la ρ S = .ok d S1 := by
    unfold lUn; rw [q1, bind_ok, q3]; rfl
  rw [e]
  exact thn (ho.run pins s1 σ H1 m1 S1 v dx d u I1 x1 w1 rv q3) fun _ _ z => (vpr_of z).left e1
def gNeg (S : Sto) : D → Option D
  | .int i => some (.int (-i))
  | _ => none
theorem unl_neg : UnL X (unaryOp .USub) gNeg := ⟨fun pins s σ H m S x dx d v I q rx ev e => by
  cases rx with
  | int i => cases e; exact thn (un_neg pins s σ H _ v _ I ev ⟨i, rfl, qv_same q (.int _)⟩) fun _ _ z => vp_of z
  | _ => cases e⟩

/-! ### tests -/
/-- truth of a value -/
def truth (S : Sto) (d : D) : Option Bool := match vw S d with
  | .non => some false
  | .bl b => some b
  | .int i => some (i != 0)
  | .str s => if s.length ≤ sizeLine then some ((s.length : Int) != 0) else none
  | .tup xs => some (!xs.isEmpty)
  | .lst xs => some (!xs.isEmpty)
  | .ftup xs => some (!xs.isEmpty)
  | _ => none
theorem tru_of {K : PySem.W.Frag} {m : List Addr} {H : Hp} {S : Sto} {v : V} {d : D} {k : Bool} (x : SR K m H S) (r : VR K m H v d) (h : truth S d = some k) : TruV K v H k := by
  unfold truth at h
  split at h
  · rename_i e
    have : v = .non := by
      cases r with
      | non => rfl
      | @ref i a h' =>
        dsimp only [vw] at e
        cases q : S[i]? with
        | none => rw [q] at e; cases e
        | some ob => rw [q] at e; cases ob <;> cases e
      | _ => cases e
    subst this; cases h; rfl
  · rename_i b e
    rw [vw_bl r e]; cases h; rfl
  · rename_i b e
    rw [vw_int r e]; cases h; rfl
  · rename_i b e
    rw [vw_str r e]
    split at h
    · cases h; exact ⟨‹_›, rfl⟩
    · cases h
  · rename_i b e
    obtain ⟨a, vs, rfl, h1, h2⟩ := vw_tup r e
    cases h
    exact .inr (.inl ⟨vs, SqT.of h1, by cases h2 <;> rfl⟩)
  · rename_i b e
    obtain ⟨a, vs, rfl, h1, h2⟩ := vw_lst x r e
    cases h
    exact .inl ⟨vs, h1, by cases h2 <;> rfl⟩
  · rename_i b e
    obtain ⟨a, vs, o, rfl, _, h1, h2⟩ := vw_ftup r e
    cases h
    exact .inr (.inl ⟨vs, SqT.rd (.inr ⟨o, h1⟩), by cases h2 <;> rfl⟩)
  · cases h
def liftB (o : Option Bool) (S : Sto) : R Bool := match o with
  | some d => .ok d S
  | none => .bad
def tTru (l : LE) : LT := fun ρ S => (l ρ S).bind fun d S1 => liftB (truth S1 d) S1
theorem liftB_ok {o : Option Bool} {S : Sto} {X : Cx} {σ : L2.St} {m : List Addr} {H : Hp} (h : Hope X σ m H (liftB o S)) : ∃ d, o = some d := by
  cases o with
  | none => exact absurd rfl h.1
  | some d => exact ⟨d, rfl⟩
theorem tru_run {pins : List (Addr × Obj)} {s s1 : Shared} {σ : L2.St} {H H1 : Hp} {m m1 : List Addr} {ρ : Ev} {S S1 : Sto} {d : D} {v : V} {u : Value} (q1 : l ρ S = .ok d S1) (I1 : Inv X pins σ H1 s1) (rv : RelV v u) (e1 : Ext m H m1 H1) (x1 : SR X.K m1 H1 S1) (w1 : VR X.K m1 H1 v d) (hp1 : Hope X σ m1 H1 (liftB (truth S1 d) S1)) :
    wpAny (model X.prog X.w) X.A (truthy u) (TPr X pins σ m H (tTru l ρ S)) X.xe s1 := by
  obtain ⟨b, q3⟩ := liftB_ok hp1
  have e : tTru l ρ S = .ok b S1 := by
    unfold tTru; rw [q1, bind_ok, q3]; rfl
  rw [e]
  refine thn (tru_ok pins s1 σ H1 v u (fun c H' => c = b ∧ H' = H1) I1 rv ⟨b, tru_of x1 w1 q3, rfl, rfl⟩) fun c s2 ⟨H2, I2, ec, eh⟩ => ?_
  subst ec eh
  exact ⟨S1, H2, m1, rfl, I2, e1, x1⟩
theorem ptl_truth (ha : PEL X a l) (he : ∀ whole, isTrue a X.env whole = (do let v ← whole; standAt a.pos; holding [v] (truthy v)) := by intro _; rfl) : PTL X a (tTru l) :=
  ⟨fun pins s σ H m ρ S I x r hp => isTrue_plain (run_seq ha I x r hp fun d S1 q1 v u s1 H1 m1 I1 rv e1 x1 w1 r1 hp1 => tru_run (s := s) q1 I1 rv e1 x1 w1 hp1) (he _)⟩
theorem ptl_cmp {op : CmpOp} {g : G2} (ho : OpL X (compareOp op) g) (ha : PEL X a la) (hb : PEL X b lb) (hm : behindInMarks op b = false := by first | exact nobehind _ (by decide) (by decide) | rfl) : PTL X (.Compare a [op] [b] pos) (tTru (lBin g la lb)) := by
  refine ⟨fun pins s σ H m ρ S I x r hp => ?_⟩
  have hp0 : Hope X σ m H (lBin g la lb ρ S) := by
    unfold tTru at hp
    cases q : lBin g la lb ρ S with
    | bad => rw [q] at hp; exact absurd rfl hp.1
    | exc C fs S' => rw [q] at hp; exact hp.exc
    | ok d S1 => exact Hope.ok
  refine wpAny_isTrue_Compare1 (thn (run_bin ha hb ho I x r hp0) fun v s1 h1 => thn h1 fun u s2 h2 => thn h2 fun w s3 ⟨d, S3, q, v3, H3, m3, I3, rv, e3, x3, w3⟩ => ?_) hm
  refine tru_run (s := s) q I3 rv e3 x3 w3 ?_
  unfold tTru at hp
  rw [q, bind_ok] at hp
  exact hp.ext e3
/-- and, or, not in tests -/
structure PWL (X : Cx) (e : Expr) (l : LT) : Prop where
  run : ∀ (whole : Sem Value) (pins : List (Addr × Obj)) (s : Shared) (σ : L2.St) (H : Hp) (m : List Addr) (ρ : Ev) (S : Sto), Inv X pins σ H s → SR X.K m H S → ER X.K m H σ ρ → Hope X σ m H (l ρ S) →
    wpAny (model X.prog X.w) X.A (isTrue e X.env whole) (TPr X pins σ m H (l ρ S)) X.xe s
theorem PWL.pt {l : LT} (h : PWL X e l) : PTL X e l := ⟨h.run _⟩
variable {ta tb tc : LT} {rest : List Expr}
def tAnd (ta tb : LT) : LT := fun ρ S => (ta ρ S).bind fun b S1 => if b = true then tb ρ S1 else .ok false S1
def tOr (ta tb : LT) : LT := fun ρ S => (ta ρ S).bind fun b S1 => if b = true then .ok true S1 else tb ρ S1
def tNot (ta : LT) : LT := fun ρ S => (ta ρ S).bind fun b S1 => .ok (!b) S1
theorem tpr_ok {pins : List (Addr × Obj)} {σ : L2.St} {H H1 : Hp} {m m1 : List Addr} {S1 : Sto} {b : Bool} {s1 : Shared} {r : R Bool} (I1 : Inv X pins σ H1 s1) (e1 : Ext m H m1 H1) (x1 : SR X.K m1 H1 S1) (q : r = .ok b S1) : TPr X pins σ m H r b s1 := ⟨S1, H1, m1, q, I1, e1, x1⟩
theorem pwl_and1 (ha : PTL X a ta) : PWL X (.BoolOp .And [a] pos) ta := by
  refine ⟨fun wh pins s σ H m ρ S I x r hp => ?_⟩
  refine isTrue_and (thn (ha.run pins s σ H m ρ S I x r hp) fun c s1 e => ?_)
  cases c with
  | true => exact isTrue_and_nil e
  | false => exact e
theorem pwl_or1 (ha : PTL X a ta) : PWL X (.BoolOp .Or [a] pos) ta := by
  refine ⟨fun wh pins s σ H m ρ S I x r hp => ?_⟩
  refine isTrue_or (thn (ha.run pins s σ H m ρ S I x r hp) fun c s1 e => ?_)
  cases c with
  | false => exact isTrue_or_nil e
  | true => exact e
theorem pwl_and (ha : PTL X a ta) (hb : PWL X (.BoolOp .And (b :: rest) pos) tb) : PWL X (.BoolOp .And (a :: b :: rest) pos) (tAnd ta tb) := by
  refine ⟨fun wh pins s σ H m ρ S I x r hp => ?_⟩
  refine isTrue_and (run_seqT ha I x r hp fun c S1 q1 s1 H1 m1 I1 e1 x1 r1 hp1 => ?_)
  cases c with
  | true =>
    have e : tAnd ta tb ρ S = tb ρ S1 := by unfold tAnd; rw [q1]; rfl
    rw [e]
    exact thn (hb.run wh pins s1 σ H1 m1 ρ S1 I1 x1 r1 hp1) fun _ _ z => z.left e1
  | false => exact tpr_ok I1 e1 x1 (by unfold tAnd; rw [q1]; rfl)
theorem pwl_or (ha : PTL X a ta) (hb : PWL X (.BoolOp .Or (b :: rest) pos) tb) : PWL X (.BoolOp .Or (a :: b :: rest) pos) (tOr ta tb) := by
  refine ⟨fun wh pins s σ H m ρ S I x r hp => ?_⟩
  refine isTrue_or (run_seqT ha I x r hp fun c S1 q1 s1 H1 m1 I1 e1 x1 r1 hp1 => ?_)
  cases c with
  | false =>
    have e : tOr ta tb ρ S = tb ρ S1 := by unfold tOr; rw [q1]; rfl
    rw [e]
    exact thn (hb.run wh pins s1 σ H1 m1 ρ S1 I1 x1 r1 hp1) fun _ _ z => z.left e1
  | true => exact tpr_ok I1 e1 x1 (by unfold tOr; rw [q1]; rfl)
theorem ptl_not (ha : PTL X a ta) : PTL X (.UnaryOp .Not a pos) (tNot ta) := by
  refine ⟨fun pins s σ H m ρ S I x r hp => ?_⟩
  refine isTrue_not (run_seqT ha I x r hp fun c S1 q1 s1 H1 m1 I1 e1 x1 r1 hp1 => ?_)
  exact tpr_ok I1 e1 x1 (by unfold tNot; rw [q1, bind_ok])
end
end MP

namespace MP
open PySem PySem.Spec PyProof.Rows L2

section
variable {X : Cx} {a b c e o : Expr} {la lb lc l lo : LE} {pos : Pos} {es rest : List Expr} {t : LA} {tc : LT}
/-! ### and, or, not, if .. else as values -/
def lAndV (la lb : LE) : LE := fun ρ S => (la ρ S).bind fun d S1 => (liftB (truth S1 d) S1).bind fun k S2 => if k = true then lb ρ S2 else .ok d S2
def lOrV (la lb : LE) : LE := fun ρ S => (la ρ S).bind fun d S1 => (liftB (truth S1 d) S1).bind fun k S2 => if k = true then .ok d S2 else lb ρ S2
def lNotV (la : LE) : LE := fun ρ S => (la ρ S).bind fun d S1 => (liftB (truth S1 d) S1).bind fun k S2 => .ok (.bl (!k)) S2
theorem pel_one {op : BoolOp} (h : PEL X a l) : PEL X (.BoolOp op [a] pos) l := ⟨fun pins s σ H m ρ S I x r hp => BoolOp_one (h.run pins s σ H m ρ S I x r hp)⟩
theorem bind_liftB {α : Type} {ob : Option Bool} {S : Sto} {f : Bool → Sto → R α} {X : Cx} {σ : L2.St} {m : List Addr} {H : Hp} (h : Hope X σ m H ((liftB ob S).bind f)) : ∃ k, ob = some k := by
  cases ob with
  | none => exact absurd rfl h.1
  | some k => exact ⟨k, rfl⟩
theorem tru_step {pins : List (Addr × Obj)} {s1 : Shared} {σ : L2.St} {H1 : Hp} {m1 : List Addr} {S1 : Sto} {d : D} {v : V} {u : Value} {k : Bool} (I1 : Inv X pins σ H1 s1) (rv : RelV v u) (x1 : SR X.K m1 H1 S1) (w1 : VR X.K m1 H1 v d) (hk : truth S1 d = some k) {Q : Bool → Shared → Prop}
    (h : ∀ s2, Inv X pins σ H1 s2 → Q k s2) : wpAny (model X.prog X.w) X.A (truthy u) Q X.xe s1 :=
  thn (tru_ok pins s1 σ H1 v u (fun c H' => c = k ∧ H' = H1) I1 rv ⟨k, tru_of x1 w1 hk, rfl, rfl⟩) fun c s2 ⟨H2, I2, ec, eh⟩ => by
    subst ec eh
    exact h s2 I2
theorem pel_and (ha : PEL X a la) (hb : PEL X (.BoolOp .And (b :: rest) pos) lb) : PEL X (.BoolOp .And (a :: b :: rest) pos) (lAndV la lb) := by
  refine ⟨fun pins s σ H m ρ S I x r hp => ?_⟩
  refine BoolOp_and (run_seq ha I x r hp fun d S1 q1 v u s1 H1 m1 I1 rv e1 x1 w1 r1 hp1 => ?_)
  obtain ⟨k, hk⟩ := bind_liftB hp1
  refine tru_step I1 rv x1 w1 hk fun s2 I2 => ?_
  have e0 : lAndV la lb ρ S = if k = true then lb ρ S1 else .ok d S1 := by unfold lAndV; rw [q1, bind_ok, hk]; rfl
  rw [hk] at hp1
  rw [e0]
  cases k with
  | true => exact thn (hb.run pins s2 σ H1 m1 ρ S1 I2 x1 r1 hp1) fun _ _ z => z.left e1
  | false => exact ⟨d, S1, rfl, v, H1, m1, I2, rv, e1, x1, w1⟩
theorem pel_or (ha : PEL X a la) (hb : PEL X (.BoolOp .Or (b :: rest) pos) lb) : PEL X (.BoolOp .Or (a :: b :: rest) pos) (lOrV la lb) := by
  refine ⟨fun pins s σ H m ρ S I x r hp => ?_⟩
  refine BoolOp_or (run_seq ha I x r hp fun d S1 q1 v u s1 H1 m1 I1 rv e1 x1 w1 r1 hp1 => ?_)
  obtain ⟨k, hk⟩ := bind_liftB hp1
  refine tru_step I1 rv x1 w1 hk fun s2 I2 => ?_
  have e0 : lOrV la lb ρ S = if k = true then .ok d S1 else lb ρ S1 := by unfold lOrV; rw [q1, bind_ok, hk]; rfl
  rw [hk] at hp1
  rw [e0]
  cases k with
  | false => exact thn (hb.run pins s2 σ H1 m1 ρ S1 I2 x1 r1 hp1) fun _ _ z => z.left e1
  | true => exact ⟨d, S1, rfl, v, H1, m1, I2, rv, e1, x1, w1⟩
def lIf (t : LT) (la lb : LE) : LE := fun ρ S => (t ρ S).bind fun k S1 => if k = true then la ρ S1 else lb ρ S1
theorem pel_ifExp (hc : PTL X c tc) (ha : PEL X a la) (hb : PEL X b lb) : PEL X (.IfExp c a b pos) (lIf tc la lb) := by
  refine ⟨fun pins s σ H m ρ S I x r hp => ?_⟩
  refine wpAny_IfExp (run_seqT hc I x r hp fun k S1 q1 s1 H1 m1 I1 e1 x1 r1 hp1 => ?_)
  have e0 : lIf tc la lb ρ S = if k = true then la ρ S1 else lb ρ S1 := by unfold lIf; rw [q1]; rfl
  rw [e0]
  cases k with
  | true => exact thn (ha.run pins s1 σ H1 m1 ρ S1 I1 x1 r1 hp1) fun _ _ z => z.left e1
  | false => exact thn (hb.run pins s1 σ H1 m1 ρ S1 I1 x1 r1 hp1) fun _ _ z => z.left e1

/-! ### arguments, displays -/
def aNil : LA := fun _ S => .ok [] S
def aCons (la : LE) (t : LA) : LA := fun ρ S => (la ρ S).bind fun d S1 => (t ρ S1).bind fun ds S2 => .ok (d :: ds) S2
theorem pal_nil : PAL X [] aNil := ⟨fun pos pins s σ H m ρ S I x r hp => Calls.spliced_nil ⟨[], S, [], H, m, rfl, I, .nil, Ext.refl, x, .nil⟩⟩
theorem pal_cons (ha : PEL X e la) (hr : PAL X es t) (hs : starEach (e :: es) X.env = (false, eval e X.env) :: starEach es X.env := by rfl) : PAL X (e :: es) (aCons la t) := by
  refine ⟨fun pos pins s σ H m ρ S I x r hp => ?_⟩
  rw [hs]
  show wpAny _ _ (spliced ((false, eval e X.env) :: backTo pos (starEach es X.env))) _ _ s
  refine Calls.spliced_cons (run_seq ha I x r hp fun d S1 q1 v u s1 H1 m1 I1 rv e1 x1 w1 r1 hp1 => ?_)
  refine run_seqA hr I1 x1 r1 hp1 fun ds S2 q2 vs us s2 H2 m2 I2 rvs e2 x2 w2 r2 hp2 => ?_
  exact ⟨d :: ds, S2, v :: vs, H2, m2, by unfold aCons; rw [q1, bind_ok, q2, bind_ok], I2, .cons rv rvs, e1.trans e2, x2, .cons (w1.ext e2 x1.muts) w2⟩
def lTup (t : LA) : LE := fun ρ S => (t ρ S).bind fun ds S1 => if ds.length ≤ sizeLine then .ok (.tup ds) S1 else .bad
def lLst (t : LA) : LE := fun ρ S => (t ρ S).bind fun ds S1 => if ds.length ≤ sizeLine then .ok (.lst ds) S1 else .bad
/-- a list that is put into the store -/
def lLstN (t : LA) : LE := fun ρ S => (t ρ S).bind fun ds S1 => if ds.length ≤ sizeLine then .ok (.ref S1.length) (S1 ++ [.lst ds]) else .bad
theorem hope_if {α : Type} {p : Prop} [Decidable p] {r : R α} {X : Cx} {σ : L2.St} {m : List Addr} {H : Hp} (h : Hope X σ m H (if p then r else .bad)) : p := by
  by_cases q : p
  · exact q
  · rw [if_neg q] at h; exact absurd rfl h.1
theorem pel_tup {x1 : Nat} (h : PAL X es t) : PEL X (.Tuple es x1 pos) (lTup t) := by
  refine ⟨fun pins s σ H m ρ S I x r hp => ?_⟩
  refine wpAny_Tuple_spliced (run_seqA h I x r hp fun ds S1 q1 vs us s1 H1 m1 I1 rv e1 x1 w1 r1 hp1 => ?_)
  have hz := hope_if hp1
  refine ⟨by rw [← rv.length, w1.length]; exact hz, ?_⟩
  have hf : H1 s1.heap.objs.size = none := I1.hok.fresh (Nat.le_refl _)
  have e0 : lTup t ρ S = .ok (.tup ds) S1 := by unfold lTup; rw [q1, bind_ok, if_pos hz]
  rw [e0]
  refine (vpr_of ⟨.ref s1.heap.objs.size, upd H1 s1.heap.objs.size (.tup vs), m1, I1.laid (t' := s1.toks) (fun b u e => Heap.get?_push_of_some _ e) (Nat.le_refl _) ?_, rfl, Ext.fresh hf, x1.fresh hf, vr_newTup x1 hf w1⟩).left e1
  exact ⟨by rw [w1.length]; exact hz, us, rv, ⟨_, Heap.get?_push_size _ rfl, rfl, _, rfl⟩⟩
theorem pel_lst (h : PAL X es t) : PEL X (.List es pos) (lLst t) := by
  refine ⟨fun pins s σ H m ρ S I x r hp => ?_⟩
  refine wpAny_List_spliced (run_seqA h I x r hp fun ds S1 q1 vs us s1 H1 m1 I1 rv e1 x1 w1 r1 hp1 => ?_)
  have hz := hope_if hp1
  refine ⟨by rw [← rv.length, w1.length]; exact hz, ?_⟩
  have hf : H1 s1.heap.objs.size = none := I1.hok.fresh (Nat.le_refl _)
  have e0 : lLst t ρ S = .ok (.lst ds) S1 := by unfold lLst; rw [q1, bind_ok, if_pos hz]
  rw [e0]
  refine (vpr_of ⟨.ref s1.heap.objs.size, upd H1 s1.heap.objs.size (.lst vs), m1, I1.laid (t' := s1.toks) (fun b u e => Heap.get?_push_of_some _ e) (Nat.le_refl _) ?_, rfl, Ext.fresh hf, x1.fresh hf, vr_newLst x1 hf w1⟩).left e1
  exact ⟨by rw [w1.length]; exact hz, us, 0, rv, Heap.get?_push_size _ rfl⟩
theorem pel_lstN (h : PAL X es t) : PEL X (.List es pos) (lLstN t) := by
  refine ⟨fun pins s σ H m ρ S I x r hp => ?_⟩
  refine wpAny_List_spliced (run_seqA h I x r hp fun ds S1 q1 vs us s1 H1 m1 I1 rv e1 x1 w1 r1 hp1 => ?_)
  have hz := hope_if hp1
  refine ⟨by rw [← rv.length, w1.length]; exact hz, ?_⟩
  have hf : H1 s1.heap.objs.size = none := I1.hok.fresh (Nat.le_refl _)
  have e0 : lLstN t ρ S = .ok (.ref S1.length) (S1 ++ [.lst ds]) := by unfold lLstN; rw [q1, bind_ok, if_pos hz]
  rw [e0]
  obtain ⟨m', z1, z2, z3⟩ := qv_newL x1 hf w1
  refine (vpr_of ⟨.ref s1.heap.objs.size, upd H1 s1.heap.objs.size (.lst vs), m', I1.laid (t' := s1.toks) (fun b u e => Heap.get?_push_of_some _ e) (Nat.le_refl _) ?_, rfl, z1, z2, z3⟩).left e1
  exact ⟨by rw [w1.length]; exact hz, us, 0, rv, Heap.get?_push_size _ rfl⟩

/-! ### chains a < b < c -/
def lChain (g g' : G2) (la lb lc : LE) : LE := fun ρ S => (la ρ S).bind fun x S1 => (lb ρ S1).bind fun y S2 => (lift1 (g S2 x y) S2).bind fun d S3 => match d with
  | .bl true => (lc ρ S3).bind fun z S4 => lift1 (g' S4 y z) S4
  | .bl false => .ok (.bl false) S3
  | _ => .bad
theorem ptl_chain {op op' : CmpOp} {g g' : G2} (ho : OpL X (compareOp op) g) (ho' : OpL X (compareOp op') g') (ha : PEL X a la) (hb : PEL X b lb) (hc : PEL X c lc)
    (hm : lastMarks [op, op'] [b, c] = false := by with_unfolding_all rfl) : PTL X (.Compare a [op, op'] [b, c] pos) (tTru (lChain g g' la lb lc)) := by
  refine ⟨fun pins s σ H m ρ S I x r hp => ?_⟩
  have hp0 : Hope X σ m H (lChain g g' la lb lc ρ S) := by
    unfold tTru at hp
    cases q : lChain g g' la lb lc ρ S with
    | bad => rw [q] at hp; exact absurd rfl hp.1
    | exc C fs S' => rw [q] at hp; exact hp.exc
    | ok d S1 => exact Hope.ok
  refine isTrue_chain (run_seq ha I x r hp0 fun dx S1 q1 v u s1 H1 m1 I1 rv e1 x1 w1 r1 hp1 => test_link (run_seq hb I1 x1 r1 hp1 fun dy S2 q2 v2 u2 s2 H2 m2 I2 rv2 e2 x2 w2 r2 hp2 => ?_)) hm
  cases q3 : g S2 dx dy with
  | none => rw [q3] at hp2; exact absurd rfl hp2.1
  | some d =>
    refine thn (ho.run pins s2 σ H2 m2 S2 v v2 dx dy d u u2 I2 x2 (w1.ext e2 x1.muts) w2 rv rv2 q3) fun w s3 ⟨v3, H3, m3, I3, rv3, e3, x3, w3⟩ => ?_
    rw [q3] at hp2
    have r3 := r2.ext e3 x2.muts
    have hp3 := hp2.ext e3
    cases w3 with
    | bl k =>
      cases rv3
      refine wpAny_truthy_bool ?_
      cases k with
      | false =>
        refine ite_ff ?_
        have e0 : lChain g g' la lb lc ρ S = .ok (.bl false) S2 := by unfold lChain; rw [q1, bind_ok, q2, bind_ok, q3]; rfl
        exact ⟨S2, H3, m3, by unfold tTru; rw [e0]; rfl, I3, (e1.trans e2).trans e3, x3⟩
      | true =>
        have e0 : lChain g g' la lb lc ρ S = (lc ρ S2).bind fun z S4 => lift1 (g' S4 dy z) S4 := by unfold lChain; rw [q1, bind_ok, q2, bind_ok, q3]; rfl
        refine ite_tt (test_last (run_seq hc I3 x3 r3 (show Hope X σ m3 H3 ((lc ρ S2).bind fun z S4 => lift1 (g' S4 dy z) S4) from hp3) fun dz S4 q4 v4 u4 s4 H4 m4 I4 rv4 e4 x4 w4 r4 hp4 => ?_))
        obtain ⟨dd, q5⟩ := lift_ok hp4
        have e5 : lChain g g' la lb lc ρ S = .ok dd S4 := by rw [e0, q4, bind_ok, q5]; rfl
        refine thn (ho'.run pins s4 σ H4 m4 S4 v2 v4 dy dz dd u2 u4 I4 x4 ((w2.ext e3 x2.muts).ext e4 x3.muts) w4 rv2 rv4 q5) fun w' s5 ⟨v5, H5, m5, I5, rv5, e5', x5, w5⟩ => ?_
        refine tru_run (s := s) e5 I5 rv5 ((((e1.trans e2).trans e3).trans e4).trans e5') x5 w5 ?_
        unfold tTru at hp
        rw [e5, bind_ok] at hp
        exact hp.ext ((((e1.trans e2).trans e3).trans e4).trans e5')
    | _ => exact absurd rfl hp2.1
end
end MP

namespace MP
open PySem PySem.Spec PyProof.Rows L2

section
variable {X : Cx} {a b c e o : Expr} {la lb lc l lo : LE} {pos p apos cpos : Pos} {es rest : List Expr} {t : LA} {tc : LT} {x : Str}
/-! ### subscripts -/
structure IxL (X : Cx) (g : G2) : Prop where
  run : ∀ (value slice : Expr) (pins : List (Addr × Obj)) (s : Shared) (σ : L2.St) (H : Hp) (m : List Addr) (S : Sto) (x y : V) (dx dy d : D) (v u : Value), Inv X pins σ H s → SR X.K m H S → VR X.K m H x dx → VR X.K m H y dy → RelV x v → RelV y u → g S dx dy = some d →
    (∀ o i, subscripted slice false o i = operate [o, i] (getItem o i)) → wpAny (model X.prog X.w) X.A (subscriptTail value slice v u) (VP X pins σ m H d S) X.xe s
theorem IxL.of {r : R2} {g : G2} (h : IxR X r)
    (hg : ∀ (H : Hp) (m : List Addr) (S : Sto) (x y : V) (dx dy d : D), SR X.K m H S → VR X.K m H x dx → VR X.K m H y dy → g S dx dy = some d → r x y H (QV X.K m H S d)) : IxL X g :=
  ⟨fun value slice pins s σ H m S x y dx dy d v u I q rx ry ex ey e hs => thn (h value slice pins s σ H x y v u _ I ex ey (hg H m S x y dx dy d q rx ry e) (hs _ _)) fun _ _ z => vp_of z⟩
theorem IxL.or {g g' : G2} (h : IxL X g) (h' : IxL X g') : IxL X (fun S x y => (g S x y).or (g' S x y)) :=
  ⟨fun value slice pins s σ H m S x y dx dy d v u I q rx ry ex ey e hs => by
    cases z : g S dx dy with
    | some d' =>
      rw [z] at e
      cases e
      exact h.run value slice pins s σ H m S x y dx dy _ v u I q rx ry ex ey z hs
    | none =>
      rw [z] at e
      exact h'.run value slice pins s σ H m S x y dx dy _ v u I q rx ry ex ey e hs⟩
theorem pel_ix {g : G2} (hr : IxL X g) (ha : PEL X a la) (hb : PEL X b lb) (hs : PlainIx b := by intro _ _; rfl) : PEL X (.Subscript a b pos) (lBin g la lb) := by
  refine ⟨fun pins s σ H m ρ S I x r hp => ?_⟩
  refine Subscript_ (run_seq ha I x r hp fun dx S1 q1 v u s1 H1 m1 I1 rv e1 x1 w1 r1 hp1 => run_seq hb I1 x1 r1 hp1 fun dy S2 q2 v2 u2 s2 H2 m2 I2 rv2 e2 x2 w2 r2 hp2 => ?_)
  obtain ⟨d, q3⟩ := lift_ok hp2
  have e : lBin g la lb ρ S = .ok d S2 := by
    unfold lBin; rw [q1, bind_ok, q2, bind_ok, q3]; rfl
  rw [e]
  exact thn (hr.run a b pins s2 σ H2 m2 S2 v v2 dx dy d u u2 I2 x2 (w1.ext e2 x1.muts) w2 rv rv2 q3 hs) fun _ _ z => (vpr_of z).left (e1.trans e2)
def gIx : G2 := fun S x y => match vw S x, vw S y with
  | .lst xs, .int i => atI xs i
  | .tup xs, .int i => atI xs i
  | .str z, .int i => if z.length ≤ sizeLine then (atI z.cps.toList i).map fun c => .str ⟨#[c]⟩ else none
  | _, _ => none
theorem VRs.atI {K : PySem.W.Frag} {m : List Addr} {H : Hp} {vs : List V} {ds : List D} {i : Int} {d : D} (r : VRs K m H vs ds) (e : atI ds i = some d) : ∃ v, L2.atI vs i = some v ∧ VR K m H v d := by
  unfold L2.atI at e ⊢
  rw [r.length]
  cases q : ixN ds.length i with
  | none => rw [q] at e; cases e
  | some j =>
    rw [q] at e
    exact r.getr e
theorem ixl_seq : IxL X gIx := .of ix_seq fun H m S x y dx dy d q rx ry e => by
  unfold gIx at e
  split at e
  · rename_i xs i e1 e2
    obtain ⟨a, vs, rfl, h1, r⟩ := vw_lst q rx e1
    obtain ⟨v, h2, w⟩ := r.atI e
    exact .inl ⟨a, vs, i, v, rfl, vw_int ry e2, h1, h2, qv_same q w⟩
  · rename_i xs i e1 e2
    obtain ⟨a, vs, rfl, h1, r⟩ := vw_tup rx e1
    obtain ⟨v, h2, w⟩ := r.atI e
    exact .inr (.inl ⟨a, vs, i, v, rfl, vw_int ry e2, SqT.of h1, h2, qv_same q w⟩)
  · rename_i z i e1 e2
    split at e
    · cases h : L2.atI z.cps.toList i with
      | none => rw [h] at e; cases e
      | some c =>
        rw [h] at e
        cases e
        exact .inr (.inr ⟨z, i, c, vw_str rx e1, vw_int ry e2, ‹_›, h, qv_same q (.str _)⟩)
    · cases e
  · cases e

/-! ### slices -/
abbrev LO := Ev → Sto → R (Option Int)
structure POL (X : Cx) (e : Option Expr) (l : LO) : Prop where
  run : ∀ (pins : List (Addr × Obj)) (s : Shared) (σ : L2.St) (H : Hp) (m : List Addr) (ρ : Ev) (S : Sto), Inv X pins σ H s → SR X.K m H S → ER X.K m H σ ρ → Hope X σ m H (l ρ S) →
    wpAny (model X.prog X.w) X.A (evalPart e X.env) (fun u s' => ∃ o S' H' m', l ρ S = .ok o S' ∧ Inv X pins σ H' s' ∧ IsPart u o ∧ Ext m H m' H' ∧ SR X.K m' H' S') X.xe s
def oNone : LO := fun _ S => .ok none S
def oSome (l : LE) : LO := fun ρ S => (l ρ S).bind fun d S1 => match d with
  | .int i => .ok (some i) S1
  | _ => .bad
theorem pol_none : POL X none oNone := ⟨fun pins s σ H m ρ S I x r hp => by
  rw [evalPart_none]
  exact wpAny_pure ⟨none, S, H, m, rfl, I, .none, Ext.refl, x⟩⟩
theorem pol_some (h : PEL X e l) : POL X (some e) (oSome l) := ⟨fun pins s σ H m ρ S I x r hp => by
  rw [evalPart_some]
  refine run_seq h I x r hp fun d S1 q1 v u s1 H1 m1 I1 rv e1 x1 w1 r1 hp1 => ?_
  cases w1 with
  | int i =>
    obtain ⟨t, rfl⟩ := rv
    exact ⟨some i, S1, H1, m1, by unfold oSome; rw [q1]; rfl, I1, .int i t, e1, x1⟩
  | _ => exact absurd rfl hp1.1⟩
def lSlice (g : Sto → D → Option Int → Option Int → Option D) (la : LE) (lo hi : LO) : LE := fun ρ S => (la ρ S).bind fun d S1 => (lo ρ S1).bind fun i S2 => (hi ρ S2).bind fun j S3 => lift1 (g S3 d i j) S3
structure SlL (X : Cx) (g : Sto → D → Option Int → Option Int → Option D) : Prop where
  run : ∀ (pins : List (Addr × Obj)) (s : Shared) (σ : L2.St) (H : Hp) (m : List Addr) (S : Sto) (x : V) (dx d : D) (v vl vu : Value) (lo hi : Option Int) (sl : Addr), Inv X pins σ H s → SR X.K m H S → VR X.K m H x dx → RelV x v → s.heap.IsSliceOf sl vl vu .none → IsPart vl lo → IsPart vu hi → g S dx lo hi = some d →
    ∃ T id, typeLookup (.type T) "__getitem__" = pure (some (.builtin id)) ∧ s.TypeIs v T ∧ wpAny (model X.prog X.w) X.A (getItem v (.ref sl)) (VP X pins σ m H d S) X.xe s
theorem hope_seq {α β : Type} {r : R α} {f : α → Sto → R β} {X : Cx} {σ : L2.St} {m : List Addr} {H : Hp} (h : Hope X σ m H (r.bind f)) : Hope X σ m H r := by
  cases r with
  | bad => exact absurd rfl h.1
  | exc C fs S' => exact h.exc
  | ok a S => exact Hope.ok
theorem pel_slice {g : Sto → D → Option Int → Option Int → Option D} {lo hi : Option Expr} {l1 l2 : LO} {p2 : Pos} (hr : SlL X g) (he : PEL X e l) (hl : POL X lo l1) (hu : POL X hi l2) : PEL X (.Subscript e (.Slice lo hi none p2) pos) (lSlice g l l1 l2) := by
  refine ⟨fun pins s σ H m ρ S I x r hp => ?_⟩
  refine Subscript_ (run_seq he I x r hp fun dx S1 q1 v u s1 H1 m1 I1 rv e1 x1 w1 r1 hp1 => ?_)
  refine wpAny_Slice (thn (hl.run pins s1 σ H1 m1 ρ S1 I1 x1 r1 (hope_seq hp1)) fun vl s2 ⟨i, S2, H2, m2, q2, I2, pl, e2, x2⟩ => ?_)
  rw [q2, bind_ok] at hp1
  have r2 := r1.ext e2 x1.muts
  have hp2 := Hope.ext hp1 e2
  refine thn (hu.run pins s2 σ H2 m2 ρ S2 I2 x2 r2 (hope_seq hp2)) fun vu s3 ⟨j, S3, H3, m3, q3, I3, pu, e3, x3⟩ => ?_
  rw [q3, bind_ok] at hp2
  obtain ⟨d, q4⟩ := lift_ok hp2
  rw [evalPart_none]
  refine wpAny_pure ?_
  have I4 : Inv X pins σ H3 { s3 with heap := s3.heap.push { cls := .type "slice", data := .fields #[vl, vu, .none] } } := I3.kept (t' := s3.toks) fun b ob q => Heap.get?_push_of_some _ q
  have w3 := (w1.ext e2 x1.muts).ext e3 x2.muts
  obtain ⟨T, id, hT, ht, hg⟩ := hr.run pins { s3 with heap := s3.heap.push { cls := .type "slice", data := .fields #[vl, vu, .none] } } σ H3 m3 S3 v dx d u vl vu i j s3.heap.objs.size I4 x3 w3 rv (Heap.IsSliceOf.new ..) pl pu q4
  have e0 : lSlice g l l1 l2 ρ S = .ok d S3 := by unfold lSlice; rw [q1, bind_ok, q2, bind_ok, q3, bind_ok, q4]; rfl
  rw [e0]
  show wpAny (model X.prog X.w) X.A (subscriptTail e (.Slice lo hi none p2) u (.ref s3.heap.objs.size)) _ X.xe { s3 with heap := s3.heap.push { cls := .type "slice", data := .fields #[vl, vu, .none] } }
  exact tail_any (ops := [.ref s3.heap.objs.size, u]) ht hT (thn hg fun _ _ z => (vpr_of z).left ((e1.trans e2).trans e3)) (by with_unfolding_all rfl)
def cutD (xs : List D) (lo hi : Option Int) : List D := (xs.drop (HT.sIx xs.length 0 lo)).take (HT.sIx xs.length xs.length hi - HT.sIx xs.length 0 lo)
theorem VRs.cut {K : PySem.W.Frag} {m : List Addr} {H : Hp} {vs : List V} {ds : List D} (r : VRs K m H vs ds) (lo hi : Option Int) : VRs K m H (cutV vs lo hi) (cutD ds lo hi) := by
  unfold cutV cutD
  rw [r.length]
  exact (r.drop _).take _
def gSlice (S : Sto) (x : D) (lo hi : Option Int) : Option D := match vw S x with
  | .lst xs => some (.lst (cutD xs lo hi))
  | .tup xs => some (.tup (cutD xs lo hi))
  | .ftup xs => if HT.sIx xs.length 0 lo = 0 ∧ HT.sIx xs.length xs.length hi = xs.length then some (.ftup xs) else some (.tup (cutD xs lo hi))
  | .str z => if z.length ≤ sizeLine then some (.str (cutS z lo hi)) else none
  | _ => none
theorem sIx_whole (n : Nat) {lo hi : Option Int} {ds : List D} (h : HT.sIx ds.length 0 lo = 0 ∧ HT.sIx ds.length ds.length hi = ds.length) : cutD ds lo hi = ds := by
  unfold cutD
  rw [h.1, h.2]
  simp
theorem sll_any : SlL X gSlice := ⟨fun pins s σ H m S x dx d v vl vu lo hi sl I q rx ev hs pl pu e => by
  unfold gSlice at e
  split at e
  · rename_i xs e1
    cases e
    obtain ⟨a, vs, rfl, h1, r⟩ := vw_lst q rx e1
    obtain ⟨T, id, h2, h3, h4⟩ := sl_list pins s σ H _ v vl vu lo hi sl (QV X.K m H S (.lst (cutD xs lo hi))) I ev hs pl pu ⟨a, vs, rfl, h1, fun p hp => qv_new q hp (vr_newLst q hp (r.cut lo hi))⟩
    exact ⟨T, id, h2, h3, thn h4 fun _ _ z => vp_of z⟩
  · rename_i xs e1
    cases e
    obtain ⟨a, vs, rfl, h1, r⟩ := vw_tup rx e1
    obtain ⟨T, id, h2, h3, h4⟩ := sl_tupA pins s σ H _ v vl vu lo hi sl (QV X.K m H S (.tup (cutD xs lo hi))) I ev hs pl pu
      ⟨a, vs, rfl, SqT.of h1, fun z => qv_same q (by rw [r.length] at z; rw [sIx_whole 0 z]; exact .tup h1 r), fun _ p hp => qv_new q hp (vr_newTup q hp (r.cut lo hi))⟩
    exact ⟨T, id, h2, h3, thn h4 fun _ _ z => vp_of z⟩
  · rename_i xs e1
    obtain ⟨a, vs, o, rfl, hd, h1, r⟩ := vw_ftup rx e1
    split at e
    · rename_i hw
      cases e
      obtain ⟨T, id, h2, h3, h4⟩ := sl_tupA pins s σ H _ v vl vu lo hi sl (QV X.K m H S (.ftup xs)) I ev hs pl pu
        ⟨a, vs, rfl, SqT.rd (.inr ⟨o, h1⟩), fun z => qv_same q (.ftup hd h1 r), fun z p hp => absurd (show _ ∧ _ by rw [r.length]; exact hw) z⟩
      exact ⟨T, id, h2, h3, thn h4 fun _ _ z => vp_of z⟩
    · rename_i hw
      cases e
      obtain ⟨T, id, h2, h3, h4⟩ := sl_tupA pins s σ H _ v vl vu lo hi sl (QV X.K m H S (.tup (cutD xs lo hi))) I ev hs pl pu
        ⟨a, vs, rfl, SqT.rd (.inr ⟨o, h1⟩), fun z => absurd (by rw [r.length] at z; exact z) hw, fun _ p hp => qv_new q hp (vr_newTup q hp (r.cut lo hi))⟩
      exact ⟨T, id, h2, h3, thn h4 fun _ _ z => vp_of z⟩
  · rename_i z e1
    split at e
    · cases e
      have e2 := vw_str rx e1
      subst e2
      obtain ⟨T, id, h2, h3, h4⟩ := sl_str pins s σ H _ v vl vu lo hi sl (QV X.K m H S (.str (cutS z lo hi))) I ev hs pl pu ⟨z, rfl, ‹_›, qv_same q (.str _)⟩
      exact ⟨T, id, h2, h3, thn h4 fun _ _ z => vp_of z⟩
    · cases e
  · cases e⟩

/-! ### attributes of objects -/
theorem VFs.look {K : PySem.W.Frag} {m : List Addr} {H : Hp} {fs : List (Str × V)} {gs : List (Str × D)} {f : Str} {d : D} : VFs K m H fs gs → gs.lookup f = some d → ∃ v, fs.lookup f = some v ∧ VR K m H v d
  | .nil, e => by simp at e
  | @VFs.cons _ _ _ g v d' vs ds h r, e => by
    by_cases q : f = g
    · subst q
      simp [List.lookup] at e
      subst e
      exact ⟨v, by simp [List.lookup], h⟩
    · have hb : (f == g) = false := beq_eq_false_iff_ne.mpr q
      simp only [List.lookup, hb] at e ⊢
      exact VFs.look r e
theorem VFs.lookN {K : PySem.W.Frag} {m : List Addr} {H : Hp} {fs : List (Str × V)} {gs : List (Str × D)} {f : Str} : VFs K m H fs gs → gs.lookup f = none → fs.lookup f = none
  | .nil, e => rfl
  | @VFs.cons _ _ _ g v d' vs ds h r, e => by
    by_cases q : f = g
    · subst q
      simp [List.lookup] at e
    · have hb : (f == g) = false := beq_eq_false_iff_ne.mpr q
      simp only [List.lookup, hb] at e ⊢
      exact VFs.lookN r e
def gFld (C : Addr) (f : Str) (S : Sto) (d : D) : Option D := match vw S d with
  | .obj C' fs => if C' = C then fs.lookup f else none
  | _ => none
def lFld (C : Addr) (f : Str) (l : LE) : LE := fun ρ S => (l ρ S).bind fun d S1 => lift1 (gFld C f S1 d) S1
theorem pel_fld {C : Addr} {f : Str} (cl : Cls X.K C) (na : NoAttr X.K C f) (he : PEL X e l) (hb : attributeBase e f X.env (eval e X.env) = eval e X.env := by rfl) : PEL X (.Attribute e f pos) (lFld C f l) := by
  refine ⟨fun pins s σ H m ρ S I x r hp => ?_⟩
  refine attr_of hb (run_seq he I x r hp fun d S1 q1 v u s1 H1 m1 I1 rv e1 x1 w1 r1 hp1 => ?_)
  obtain ⟨d', q2⟩ := lift_ok hp1
  have e0 : lFld C f l ρ S = .ok d' S1 := by unfold lFld; rw [q1, bind_ok, q2]; rfl
  rw [e0]
  unfold gFld at q2
  split at q2
  · rename_i C' gs q3
    split at q2
    · rename_i q4
      subst q4
      obtain ⟨a, dx, fs, rfl, h1, r2⟩ := vw_obj x1 w1 q3
      obtain ⟨w, h2, h3⟩ := r2.look q2
      obtain rfl : u = Value.ref a := rv
      exact getattr_ok I1 h1 cl na h2 fun u' s2 I2 ru => (vpr_of ⟨w, H1, m1, I2, ru, Ext.refl, x1, h3⟩).left e1
    · cases q2
  · cases q2

/-! ### built-in functions and types, called by values -/
abbrev GC := Sto → List D → Option D
structure CallL (X : Cx) (f : Value) (g : GC) : Prop where
  run : ∀ (pins : List (Addr × Obj)) (s : Shared) (σ : L2.St) (H : Hp) (m : List Addr) (S : Sto) (xs : List V) (ds : List D) (d : D) (us : List Value), Inv X pins σ H s → SR X.K m H S → VRs X.K m H xs ds → Vals xs us → g S ds = some d →
    wpAny (model X.prog X.w) X.A (call f us) (VP X pins σ m H d S) X.xe s
theorem CallL.of {f : Value} {r : List V → Hp → VK → Prop} {g : GC} (h : CallR X f r) (hg : ∀ (H : Hp) (m : List Addr) (S : Sto) (xs : List V) (ds : List D) (d : D), SR X.K m H S → VRs X.K m H xs ds → g S ds = some d → r xs H (QV X.K m H S d)) : CallL X f g :=
  ⟨fun pins s σ H m S xs ds d us I q r rv e => thn (h pins s σ H xs us _ I rv (hg H m S xs ds d q r e)) fun _ _ z => vp_of z⟩
theorem CallL.or {f : Value} {g g' : GC} (h : CallL X f g) (h' : CallL X f g') : CallL X f (fun S ds => (g S ds).or (g' S ds)) :=
  ⟨fun pins s σ H m S xs ds d us I q r rv e => by
    cases z : g S ds with
    | some d' =>
      rw [z] at e
      cases e
      exact h.run pins s σ H m S xs ds _ us I q r rv z
    | none =>
      rw [z] at e
      exact h'.run pins s σ H m S xs ds _ us I q r rv e⟩
def lCallB (g : GC) (t : LA) : LE := fun ρ S => (t ρ S).bind fun ds S1 => lift1 (g S1 ds) S1
theorem pel_callB {id : String} {g : GC} (hc : CallL X (.builtin id) g) (hg : Gl X x) (hm : X.mg x = none) (hv : bootBuiltins x = some (.builtin id)) (ha : PAL X (e :: es) t) (hn : x ≠ "__name__" := by decide) (hdb : (x == ("__debug__" : Str)) = false := by decide)
    (he : starEach (e :: es) X.env = (false, eval e X.env) :: starEach es X.env := by rfl) (hpl : (backTo pos (starEach es X.env)).any (·.1) = false := by rfl) : PEL X (.Call (.Name x p) (e :: es) [] pos) (lCallB g t) := by
  refine ⟨fun pins s σ H m ρ S I x r hp => ?_⟩
  refine wpAny_Call_Name_kw (ld_blt I hg hm hv ?_ hn hdb)
  refine PyProof.Rows.callWith_builtin1 (run_seqA ha I x r hp fun ds S1 q1 vs us s1 H1 m1 I1 rv e1 x1 w1 r1 hp1 => ?_) he hpl
  obtain ⟨d', q2⟩ := lift_ok hp1
  have e0 : lCallB g t ρ S = .ok d' S1 := by unfold lCallB; rw [q1, bind_ok, q2]; rfl
  rw [e0]
  exact thn (hc.run pins s1 σ H1 m1 S1 vs ds d' us I1 x1 w1 rv q2) fun _ _ z => (vpr_of z).left e1
theorem pel_callTy {T : String} {g : GC} (hc : CallL X (.type T) g) (hg : Gl X x) (hm : X.mg x = none) (hv : bootBuiltins x = some (.type T)) (ha : PAL X (e :: es) t) (hn : x ≠ "__name__" := by decide) (hdb : (x == ("__debug__" : Str)) = false := by decide)
    (he : starEach (e :: es) X.env = (false, eval e X.env) :: starEach es X.env := by rfl) (hpl : (backTo pos (starEach es X.env)).any (·.1) = false := by rfl) : PEL X (.Call (.Name x p) (e :: es) [] pos) (lCallB g t) := by
  refine ⟨fun pins s σ H m ρ S I x r hp => ?_⟩
  refine wpAny_Call_Name_kw (ld_blt I hg hm hv ?_ hn hdb)
  refine PyProof.Rows.callWith_type1 (run_seqA ha I x r hp fun ds S1 q1 vs us s1 H1 m1 I1 rv e1 x1 w1 r1 hp1 => ?_) he hpl
  obtain ⟨d', q2⟩ := lift_ok hp1
  have e0 : lCallB g t ρ S = .ok d' S1 := by unfold lCallB; rw [q1, bind_ok, q2]; rfl
  rw [e0]
  exact thn (hc.run pins s1 σ H1 m1 S1 vs ds d' us I1 x1 w1 rv q2) fun _ _ z => (vpr_of z).left e1
end
end MP

namespace MP
open PySem PySem.Spec PyProof.Rows L2

/-! ### room, and no repr under way (L2.Room and L2.FnOk, with the guards) -/
structure Room (k : Nat) (A : Around) : Prop where
  r : L2.Room k A
  g : A.guards = some []
theorem Room.mono {j k : Nat} {A : Around} (r : MP.Room k A) (h : j ≤ k) : MP.Room j A := ⟨r.r.mono h, r.g⟩
theorem Room.deeper {k : Nat} {A : Around} (r : MP.Room (k + 1) A) (env : Env) : MP.Room k (A.deeper env) := ⟨r.r.deeper env, r.g⟩
theorem Room.in1 {k : Nat} {A : Around} (r : MP.Room (k + 1) A) : MP.Room k A.in1 := ⟨r.r.in1, r.g⟩
theorem Room.make {k : Nat} {A : Around} (r : MP.Room (k + 1) A) (C : Addr) (us : List Value) (kw : List (Str × Value)) : MP.Room k (A.under (.builtin "type.__call__" ⟨.ref C :: us, kw⟩)) :=
  ⟨r.r.make C us kw, by
    have h := r.g
    first
      | exact h
      | (simp [Around.under, Code.guards, pushGuards, Code.isGuard, guardIds, h])⟩
theorem Room.depth {k : Nat} {A : Around} (r : MP.Room k A) : A.depth < recursionLimit := r.r.depth
theorem Room.units {k : Nat} {A : Around} (r : MP.Room k A) : A.units + 64 < cLine := r.r.units
theorem Room.hd {k : Nat} {A : Around} (r : MP.Room k A) : A.handled = none := r.r.hd
structure FnOk (P : Program) (w : World) (K : PySem.W.Frag) (mg : Str → Option Value) (base : Heap) (CX : CXT) (k : Nat) (f : Addr) (fd : FuncData) (ps : List Str) (sp : Sp) : Prop where
  len : ∀ vs H Q E, sp vs H Q E → vs.length = ps.length
  run : ∀ (A : Around) (outer : List Env) (s : Shared) (H : Hp) (args : Args) (us : List Value) (vs : List V) (Q : VK) (E : XK), MP.Room k A → Env0 P w K mg base A outer s H → BindsTo s fd args (ps.zip us) → Vals vs us → sp vs H Q E →
    codeAny (model P w) A (.call (.ref f) args) (CR CX outer P w H s Q E) s
theorem FnOk.imp {P : Program} {w : World} {K : PySem.W.Frag} {mg : Str → Option Value} {base : Heap} {CX : CXT} {k : Nat} {f : Addr} {fd : FuncData} {ps : List Str} {sp sp' : Sp} (F : MP.FnOk P w K mg base CX k f fd ps sp)
    (h : ∀ vs H Q E, sp' vs H Q E → sp vs H Q E) : MP.FnOk P w K mg base CX k f fd ps sp' :=
  ⟨fun vs H Q E q => F.len vs H Q E (h _ _ _ _ q), fun A outer s H args us vs Q E hr he hb hv hs => F.run A outer s H args us vs Q E hr he hb hv (h _ _ _ _ hs)⟩

/-! ### what a def promises, by the store -/
abbrev F := List D → Sto → R D
def spL (K : PySem.W.Frag) (f : F) (n : Nat) : Sp := fun vs H Q E => vs.length = n ∧ ∃ m S ds, SR K m H S ∧ VRs K m H vs ds ∧ f ds S ≠ .bad ∧ (∀ d S', f ds S = .ok d S' → ∀ v H', QV K m H S' d v H' → Q v H') ∧
  ∀ C fs S', f ds S = .exc C fs S' → ∀ cls d H', WL K m H C fs S' cls d H' → E cls d H'
abbrev FnL (P : Program) (w : World) (K : PySem.W.Frag) (mg : Str → Option Value) (base : Heap) (k : Nat) (f : Addr) (fd : FuncData) (ps : List Str) (g : F) : Prop := FnOk P w K mg base (L2.CX P w) k f fd ps (spL K g ps.length)

section
variable {X : Cx} {a b c e o : Expr} {la lb lc l lo : LE} {pos p apos cpos : Pos} {es rest : List Expr} {t : LA} {tc : LT} {x mn : Str} {k : Nat} {f C : Addr} {fd : FuncData} {ps : List Str} {g : F}
theorem run_fnL {pins : List (Addr × Obj)} {σ : L2.St} {H : Hp} {s : Shared} {us ds0 : List Value} {vs dvs : List V} {m : List Addr} {S : Sto} {ds dd : List D} (Fn : FnL X.prog X.w X.K X.mg X.base k f fd ps g) (hr : Room k X.A) (hb : Binds X.K fd ps ds0) (hd : Vals dvs ds0) (hdd : VRs X.K m H dvs dd)
    (I : Inv X pins σ H s) (x : SR X.K m H S) (r : Vals vs us) (rd : VRs X.K m H vs ds) (hl : (vs ++ dvs).length = ps.length) (hp : Hope X σ m H (g (ds ++ dd) S)) :
    wpAny (model X.prog X.w) X.A (call (.ref f) us) (VPr X pins σ m H (g (ds ++ dd) S)) X.xe s := by
  have r2 : Vals (vs ++ dvs) (us ++ ds0) := r.append hd
  have hl2 : (us ++ ds0).length = ps.length := by rw [← r2.length]; exact hl
  have rd2 : VRs X.K m H (vs ++ dvs) (ds ++ dd) := rd.append hdd
  have hsp : spL X.K g ps.length (vs ++ dvs) H (fun v H' => ∃ d S', g (ds ++ dd) S = .ok d S' ∧ QV X.K m H S' d v H') (fun cls d H' => ∃ C fs S', g (ds ++ dd) S = .exc C fs S' ∧ WL X.K m H C fs S' cls d H') :=
    ⟨hl, m, S, ds ++ dd, x, rd2, hp.1, fun d S' q v H' z => ⟨d, S', q, z⟩, fun C fs S' q cls d H' z => ⟨C, fs, S', q, z⟩⟩
  refine wpAny_call (codeAny_mono (Fn.run X.A X.stack s H ⟨us, []⟩ (us ++ ds0) (vs ++ dvs) _ _ hr I.env0 (hb s us I.kIn hl2) r2 hsp) fun r s' hq => ?_)
  cases r with
  | error e =>
    cases q : g (ds ++ dd) S with
    | bad => rw [q] at hp; exact absurd rfl hp.1
    | ok d S' =>
      obtain ⟨_, _, _, _, _, _, _, _, _, _, _, _, C, fs, S', q', _⟩ := hq
      rw [q] at q'; cases q'
    | exc C fs S' =>
      refine hp.2 C fs S' q e s' (XE.of_call I (fun cls d H' w => ?_) hq)
      obtain ⟨C', fs', S'', q', w⟩ := w
      rw [q] at q'; cases q'
      exact ⟨rfl, w⟩
  | ok fl =>
    cases fl with
    | ret u =>
      obtain ⟨v, H', I', rv, d, S', q, m', e, x', w⟩ := I.after hq
      exact ⟨d, S', q, v, H', m', I', rv, e, x', w⟩
    | next => exact False.elim hq
    | brk => exact False.elim hq
    | cont => exact False.elim hq
/-- what a call's values by default are -/
structure Dfl (K : PySem.W.Frag) (dvs : List V) (ds0 : List Value) (dd : List D) : Prop where
  vals : Vals dvs ds0
  rel : ∀ m H, VRs K m H dvs dd
theorem dfl_nil {K : PySem.W.Frag} : Dfl K [] [] [] := ⟨.nil, fun _ _ => .nil⟩
def lCall (n : Nat) (g : F) (dd : List D) (t : LA) : LE := fun ρ S => (t ρ S).bind fun ds S1 => if ds.length + dd.length = n then g (ds ++ dd) S1 else .bad
theorem pel_call {ds0 : List Value} {dvs : List V} {dd : List D} (Fn : FnL X.prog X.w X.K X.mg X.base k f fd ps g) (hr : Room k X.A) (hg : Gl X x) (hm : X.mg x = some (.ref f)) (hk : PySem.W.keepIn X.K (.ref f) = true) (hb : Binds X.K fd ps ds0) (hd : Dfl X.K dvs ds0 dd)
    (ha : PAL X (e :: es) t) (hdb : (x == ("__debug__" : Str)) = false := by decide) (he : starEach (e :: es) X.env = (false, eval e X.env) :: starEach es X.env := by rfl) (hpl : (backTo pos (starEach es X.env)).any (·.1) = false := by rfl) :
    PEL X (.Call (.Name x p) (e :: es) [] pos) (lCall ps.length g dd t) := by
  refine ⟨fun pins s σ H m ρ S I x r hp => ?_⟩
  refine wpAny_Call_Name_kw (ld_glob I hg hm ?_ hdb)
  refine PySem.W.callWith_K (h₀ := X.base) I.ok.mod.kin hk (run_seqA ha I x r hp fun ds S1 q1 vs us s1 H1 m1 I1 rv e1 x1 w1 r1 hp1 => ⟨I1.kIn, ?_⟩) he hpl
  have hl := hope_if hp1
  rw [if_pos hl] at hp1
  have e0 : lCall ps.length g dd t ρ S = g (ds ++ dd) S1 := by unfold lCall; rw [q1, bind_ok, if_pos hl]
  rw [e0]
  exact thn (run_fnL Fn hr hb hd.vals (hd.rel _ _) I1 x1 rv w1 (by rw [List.length_append, w1.length, (hd.rel m1 H1).length]; exact hl) hp1) fun _ _ z => z.left e1
/-- o.m(..): C the object's class -/
def recv (C : Addr) (mn : Str) (S : Sto) (d : D) : Bool := match vw S d with
  | .obj C' fs => decide (C' = C) && (fs.lookup mn).isNone
  | _ => false
def lMeth (C : Addr) (mn : Str) (n : Nat) (g : F) (dd : List D) (lo : LE) (t : LA) : LE := fun ρ S => (lo ρ S).bind fun d S0 => if recv C mn S0 d = true then (t ρ S0).bind fun ds S1 => if (ds.length + dd.length) + 1 = n then g (d :: (ds ++ dd)) S1 else .bad else .bad
theorem recv_at {K : PySem.W.Frag} {m : List Addr} {H : Hp} {S : Sto} {v : V} {d : D} (x : SR K m H S) (r : VR K m H v d) (h : recv C mn S d = true) : ∃ a dx fs, v = .ref a ∧ H a = some (.ins C dx fs) ∧ fs.lookup mn = none := by
  unfold recv at h
  split at h
  · rename_i C' gs q
    rw [Bool.and_eq_true] at h
    have h1 := of_decide_eq_true h.1
    subst h1
    obtain ⟨a, dx, fs, rfl, h2, r2⟩ := vw_obj x r q
    exact ⟨a, dx, fs, rfl, h2, r2.lookN (Option.isNone_iff_eq_none.mp h.2)⟩
  · cases h
theorem pel_meth {pl : Sem Bool} {ds0 : List Value} {dvs : List V} {dd : List D} (c : Cls X.K C) (hm : Meth X.K C mn f) (Fn : FnL X.prog X.w X.K X.mg X.base k f fd ps g) (hr : Room k X.A) (hb : Binds X.K fd ps ds0) (hd : Dfl X.K dvs ds0 dd) (he : PEL X o lo) (ha : PAL X (e :: es) t)
    (hst : starEach (e :: es) X.env = (false, eval e X.env) :: starEach es X.env := by rfl) (hpl : (backTo pos (starEach es X.env)).any (·.1) = false := by rfl)
    (ht : eval (.Call (.Attribute o mn apos) (e :: es) [] pos) X.env = (do
      let ov ← eval o X.env
      standAt apos.atName
      let (f, first) ← holding [ov] (getMethod ov mn pl)
      callWith pos f first (backTo pos (starEach (e :: es) X.env)) (backToKw pos (keywordEach [] X.env))) := by rfl) :
    PEL X (.Call (.Attribute o mn apos) (e :: es) [] pos) (lMeth C mn ps.length g dd lo t) := by
  refine ⟨fun pins s σ H m ρ S I x r hp => ?_⟩
  refine PySem.W.methodCall_KW (pl := pl) (run_seq he I x r hp fun d S0 q0 v u s0 H0 m0 I0 rv0 e0 x0 w0 r0 hp0 => ?_) ht
  have hc := hope_if hp0
  rw [if_pos hc] at hp0
  obtain ⟨a, dx, fs, rfl, ea, hl⟩ := recv_at x0 w0 hc
  obtain rfl : u = Value.ref a := rv0
  refine getmeth_ok I0 ea c hm hl ?_
  refine PySem.W.callWith_K (first := [.ref a]) (h₀ := X.base) I.ok.mod.kin hm.kp (run_seqA ha I0 x0 r0 hp0 fun ds S1 q1 vs us s1 H1 m1 I1 rv1 e1 x1 w1 r1 hp1 => ⟨I1.kIn, ?_⟩) hst hpl
  have hn := hope_if hp1
  rw [if_pos hn] at hp1
  have ez : lMeth C mn ps.length g dd lo t ρ S = g (d :: (ds ++ dd)) S1 := by unfold lMeth; rw [q0, bind_ok, if_pos hc, q1, bind_ok, if_pos hn]
  rw [ez]
  exact thn (run_fnL (us := .ref a :: us) (vs := .ref a :: vs) (ds := d :: ds) Fn hr hb hd.vals (hd.rel _ _) I1 x1 (.cons rfl rv1) (.cons (w0.ext e1 x0.muts) w1)
    (by rw [List.cons_append, List.length_cons, List.length_append, w1.length, (hd.rel m1 H1).length]; exact hn) hp1) fun _ _ z => z.left (e0.trans e1)
theorem pel_meth0 {pl : Sem Bool} {ds0 : List Value} {dvs : List V} {dd : List D} (c : Cls X.K C) (hm : Meth X.K C mn f) (Fn : FnL X.prog X.w X.K X.mg X.base k f fd ps g) (hr : Room k X.A) (hb : Binds X.K fd ps ds0) (hd : Dfl X.K dvs ds0 dd) (he : PEL X o lo)
    (ht : eval (.Call (.Attribute o mn apos) [] [] pos) X.env = (do
      let ov ← eval o X.env
      standAt apos.atName
      let (f, first) ← holding [ov] (getMethod ov mn pl)
      callWith pos f first (backTo pos (starEach [] X.env)) (backToKw pos (keywordEach [] X.env))) := by rfl) :
    PEL X (.Call (.Attribute o mn apos) [] [] pos) (lMeth C mn ps.length g dd lo aNil) := by
  refine ⟨fun pins s σ H m ρ S I x r hp => ?_⟩
  refine PySem.W.methodCall_KW (pl := pl) (run_seq he I x r hp fun d S0 q0 v u s0 H0 m0 I0 rv0 e0 x0 w0 r0 hp0 => ?_) ht
  have hc := hope_if hp0
  rw [if_pos hc] at hp0
  obtain ⟨a, dx, fs, rfl, ea, hl⟩ := recv_at x0 w0 hc
  obtain rfl : u = Value.ref a := rv0
  refine getmeth_ok I0 ea c hm hl ?_
  have hp1 : Hope X σ m0 H0 (if (([] : List D).length + dd.length) + 1 = ps.length then g (d :: ([] ++ dd)) S0 else .bad) := hp0
  have hn := hope_if hp1
  rw [if_pos hn] at hp1
  have ez : lMeth C mn ps.length g dd lo aNil ρ S = g (d :: ([] ++ dd)) S0 := by
    unfold lMeth; rw [q0, bind_ok, if_pos hc]
    show (if (([] : List D).length + dd.length) + 1 = ps.length then g (d :: ([] ++ dd)) S0 else .bad) = _
    rw [if_pos hn]
  rw [ez]
  exact PySem.W.callWith_K0 (first := [.ref a]) I0.kIn hm.kp (thn (run_fnL (us := [.ref a]) (vs := [.ref a]) (ds := [d]) Fn hr hb hd.vals (hd.rel _ _) I0 x0 (.cons rfl .nil) (.cons w0 .nil)
    (by rw [List.length_append, (hd.rel m0 H0).length]; simp at hn ⊢; omega) hp1) fun _ _ z => z.left e0)
end

/-! ### what nobody can reach any more is let go -/
mutual
def below (n : Nat) : D → Bool
  | .ref i => decide (i < n)
  | .tup xs => belows n xs
  | .ftup xs => belows n xs
  | .lst xs => belows n xs
  | .dct _ kvs => belowd n kvs
  | .obj _ fs => belowf n fs
  | .exn _ fs => belowf n fs
  | _ => true
def belows (n : Nat) : List D → Bool
  | [] => true
  | x :: xs => below n x && belows n xs
def belowd (n : Nat) : List (D × D) → Bool
  | [] => true
  | (_, x) :: xs => below n x && belowd n xs
def belowf (n : Nat) : List (Str × D) → Bool
  | [] => true
  | (_, x) :: xs => below n x && belowf n xs
end
def belowo (n : Nat) : O → Bool
  | .lst xs => belows n xs
  | .dct _ kvs => belowd n kvs
  | .ins _ fs => belowf n fs
section
variable {K : PySem.W.Frag} {m : List Addr} {H : Hp}
mutual
theorem VR.bel {v : V} {d : D} : VR K m H v d → below m.length d = true
  | .non => rfl
  | .bl _ => rfl
  | .int _ => rfl
  | .str _ => rfl
  | .tup _ r => r.bel
  | .ftup _ _ r => r.bel
  | .lst _ _ r => r.bel
  | .lstK _ _ _ _ _ _ r => r.bel
  | .dct _ _ r => r.bel
  | .dctT _ _ r => r.bel
  | .obj _ _ r => r.bel
  | .exn0 _ _ => rfl
  | .exnD _ _ _ _ r => r.bel
  | .ref h => by
    simp only [MP.below]
    exact decide_eq_true (List.getElem?_eq_some_iff.mp h).1
theorem VRs.bel {v : List V} {d : List D} : VRs K m H v d → belows m.length d = true
  | .nil => rfl
  | .cons h r => by simp only [MP.belows, h.bel, r.bel, Bool.and_self]
theorem VFs.bel {v : List (Str × V)} {d : List (Str × D)} : VFs K m H v d → belowf m.length d = true
  | .nil => rfl
  | .cons h r => by simp only [MP.belowf, h.bel, r.bel, Bool.and_self]
theorem VDk.bel {v : List (Key × V)} {d : List (D × D)} : VDk K m H v d → belowd m.length d = true
  | .nil => rfl
  | .cons h r => by simp only [MP.belowd, h.bel, r.bel, Bool.and_self]
theorem VDt.bel {v : List (List Key × V)} {d : List (D × D)} : VDt K m H v d → belowd m.length d = true
  | .nil => rfl
  | .cons h r => by simp only [MP.belowd, h.bel, r.bel, Bool.and_self]
end
variable {l : List Addr}
theorem nin_left {a : Addr} (h : a ∉ m ++ l) : a ∉ m := fun z => h (List.mem_append_left _ z)
mutual
theorem VR.down {v : V} {d : D} : VR K (m ++ l) H v d → MP.below m.length d = true → VR K m H v d
  | .non, _ => .non
  | .bl b, _ => .bl b
  | .int i, _ => .int i
  | .str s, _ => .str s
  | .tup h r, q => .tup h (r.down (by simpa only [MP.below] using q))
  | .ftup hd h r, q => .ftup hd h (r.down (by simpa only [MP.below] using q))
  | .lst n h r, q => .lst (nin_left n) h (r.down (by simpa only [MP.below] using q))
  | .lstK hk h1 h2 h3 h4 h5 r, q => .lstK hk h1 h2 h3 h4 h5 (r.down (by simpa only [MP.below] using q))
  | .dct n h r, q => .dct (nin_left n) h (r.down (by simpa only [MP.below] using q))
  | .dctT n h r, q => .dctT (nin_left n) h (r.down (by simpa only [MP.below] using q))
  | .obj n h r, q => .obj (nin_left n) h (r.down (by simpa only [MP.below] using q))
  | .exn0 n h, q => .exn0 (nin_left n) h
  | .exnD n nd h hd r, q => .exnD (nin_left n) (nin_left nd) h hd (r.down (by simpa only [MP.below] using q))
  | .ref h, q => .ref (by
    simp only [MP.below] at q
    rw [List.getElem?_append_left (of_decide_eq_true q)] at h
    exact h)
theorem VRs.down {v : List V} {d : List D} : VRs K (m ++ l) H v d → MP.belows m.length d = true → VRs K m H v d
  | .nil, _ => .nil
  | .cons h r, q => by
    simp only [MP.belows, Bool.and_eq_true] at q
    exact .cons (h.down q.1) (r.down q.2)
theorem VFs.down {v : List (Str × V)} {d : List (Str × D)} : VFs K (m ++ l) H v d → MP.belowf m.length d = true → VFs K m H v d
  | .nil, _ => .nil
  | .cons h r, q => by
    simp only [MP.belowf, Bool.and_eq_true] at q
    exact .cons (h.down q.1) (r.down q.2)
theorem VDk.down {v : List (Key × V)} {d : List (D × D)} : VDk K (m ++ l) H v d → MP.belowd m.length d = true → VDk K m H v d
  | .nil, _ => .nil
  | .cons h r, q => by
    simp only [MP.belowd, Bool.and_eq_true] at q
    exact .cons (h.down q.1) (r.down q.2)
theorem VDt.down {v : List (List Key × V)} {d : List (D × D)} : VDt K (m ++ l) H v d → MP.belowd m.length d = true → VDt K m H v d
  | .nil, _ => .nil
  | .cons h r, q => by
    simp only [MP.belowd, Bool.and_eq_true] at q
    exact .cons (h.down q.1) (r.down q.2)
end
/-- a place of the store from n on, as what stands there -/
def fz0 (S : Sto) (n : Nat) (d : D) : D := match d with
  | .ref i => if i < n then .ref i else vw S (.ref i)
  | d => d
def fz (S : Sto) (n : Nat) (d : D) : D := match fz0 S n d with
  | .obj C fs => .obj C (fs.map fun q => (q.1, fz0 S n q.2))
  | d => d
theorem nodup_get {xs : List Addr} (h : xs.Nodup) {i j : Nat} {a : Addr} (h1 : xs[i]? = some a) (h2 : xs[j]? = some a) : i = j := by
  obtain ⟨p1, e1⟩ := List.getElem?_eq_some_iff.mp h1
  obtain ⟨p2, e2⟩ := List.getElem?_eq_some_iff.mp h2
  exact (List.getElem_inj h).mp (e1.trans e2.symm)
theorem VR.fz0 {S : Sto} {v : V} {d : D} (x : SR K (m ++ l) H S) (r : VR K (m ++ l) H v d) : ∃ v', v' = v ∧ (VR K (m ++ l) H v (MP.fz0 S m.length d) ∨ (∃ a, v = .ref a ∧ a ∉ m ∧ ∃ ob, OR K (m ++ l) H a ob ∧ MP.fz0 S m.length d = (match ob with
  | .lst xs => .lst xs
  | .dct t kvs => .dct t kvs
  | .ins C fs => .obj C fs))) := by
  refine ⟨v, rfl, ?_⟩
  cases r with
  | @ref i a h =>
    unfold MP.fz0
    by_cases hi : i < m.length
    · dsimp only
      rw [if_pos hi]
      exact .inl (.ref h)
    · dsimp only
      rw [if_neg hi]
      cases q : S[i]? with
      | none =>
        have := (List.getElem?_eq_some_iff.mp h).1
        rw [x.len] at this
        rw [List.getElem?_eq_none_iff] at q
        omega
      | some ob =>
        refine .inr ⟨a, rfl, fun z => ?_, ob, x.at_ i a ob h q, by dsimp only [vw]; rw [q]; cases ob <;> rfl⟩
        obtain ⟨j, hj⟩ := List.mem_iff_getElem?.mp z
        have hj' := (List.getElem?_eq_some_iff.mp hj).1
        have h2 : (m ++ l)[j]? = some a := by rw [List.getElem?_append_left hj']; exact hj
        have := nodup_get x.nd h2 h
        omega
  | non => exact .inl .non
  | bl b => exact .inl (.bl b)
  | int b => exact .inl (.int b)
  | str b => exact .inl (.str b)
  | tup h r => exact .inl (.tup h r)
  | ftup hd h r => exact .inl (.ftup hd h r)
  | lst n h r => exact .inl (.lst n h r)
  | lstK hk h1 h2 h3 h4 h5 r => exact .inl (.lstK hk h1 h2 h3 h4 h5 r)
  | dct n h r => exact .inl (.dct n h r)
  | dctT n h r => exact .inl (.dctT n h r)
  | obj n h r => exact .inl (.obj n h r)
  | exn0 n h => exact .inl (.exn0 n h)
  | exnD n nd h hd r => exact .inl (.exnD n nd h hd r)
end
end MP

namespace MP
open PySem PySem.Spec PyProof.Rows L2

section
variable {K : PySem.W.Frag} {m l : List Addr} {H H' : Hp} {S S' : Sto}
theorem OR.bel {a : Addr} {o : O} (h : OR K m H a o) : belowo m.length o = true := by
  cases h with
  | lst _ r => exact r.bel
  | dct _ r => exact r.bel
  | dctT _ r => exact r.bel
  | ins _ r => exact r.bel
theorem OR.down {a : Addr} {o : O} (h : OR K (m ++ l) H a o) (b : belowo m.length o = true) : OR K m H a o := by
  cases h with
  | lst h r => exact .lst h (r.down b)
  | dct h r => exact .dct h (r.down b)
  | dctT h r => exact .dctT h (r.down b)
  | ins h r => exact .ins h (r.down b)
def snap : O → D
  | .lst xs => .lst xs
  | .dct t kvs => .dct t kvs
  | .ins C fs => .obj C fs
theorem VR.fz0_down {v : V} {d : D} (x : SR K (m ++ l) H S) (r : VR K (m ++ l) H v d) (b : MP.below m.length (MP.fz0 S m.length d) = true) : VR K m H v (MP.fz0 S m.length d) := by
  obtain ⟨_, rfl, q⟩ := VR.fz0 x r
  rcases q with q | ⟨a, rfl, na, ob, q, e⟩
  · exact q.down b
  · rw [e] at b ⊢
    cases q with
    | lst h r => exact .lst na (.inl h) (r.down (by simpa only [MP.below] using b))
    | dct h r => exact .dct na h (r.down (by simpa only [MP.below] using b))
    | dctT h r => exact .dctT na h (r.down (by simpa only [MP.below] using b))
    | ins h r => exact .obj na h (r.down (by simpa only [MP.below] using b))
theorem VFs.fz0_down (x : SR K (m ++ l) H S) : ∀ {vs : List (Str × V)} {ds : List (Str × D)}, VFs K (m ++ l) H vs ds → belowf m.length (ds.map fun q => (q.1, MP.fz0 S m.length q.2)) = true → VFs K m H vs (ds.map fun q => (q.1, MP.fz0 S m.length q.2))
  | _, _, .nil, _ => .nil
  | _, _, .cons h r, q => by
    simp only [List.map_cons, belowf, Bool.and_eq_true] at q
    exact .cons (h.fz0_down x q.1) (VFs.fz0_down x r q.2)
theorem VR.fz_down {v : V} {d : D} (x : SR K (m ++ l) H S) (r : VR K (m ++ l) H v d) (b : MP.below m.length (fz S m.length d) = true) : VR K m H v (fz S m.length d) := by
  unfold fz at b ⊢
  split at b
  · rename_i C fs e
    obtain ⟨_, rfl, q⟩ := VR.fz0 x r
    simp only [MP.below] at b
    rcases q with q | ⟨a, rfl, na, ob, q, e2⟩
    · rw [e] at q
      cases q with
      | obj n h r => exact .obj (nin_left n) h (VFs.fz0_down x r b)
    · rw [e2] at e
      cases q with
      | ins h r => cases e; exact .obj na h (VFs.fz0_down x r b)
      | lst _ _ => cases e
      | dct _ _ => cases e
      | dctT _ _ => cases e
  · exact r.fz0_down x b
/-- a weaker result: less is told, or what nobody reaches any more is let go -/
inductive RLe (S : Sto) : R D → R D → Prop where
  | bad (r : R D) : RLe S .bad r
  | refl (r : R D) : RLe S r r
  | gc (d d' : D) (S' : Sto) (h : S'.take S.length = S) (e : d' = fz S' S.length d) (b : below S.length d' = true) : RLe S (.ok d' S) (.ok d S')
  | gcx (C : Addr) (fs : List (Str × D)) (S' : Sto) (h : S'.take S.length = S) (b : belowf S.length fs = true) : RLe S (.exc C fs S) (.exc C fs S')
theorem sr_gc {m' : List Addr} (x : SR K m H S) (e : Ext m H m' H') (x' : SR K m' H' S') (h : S'.take S.length = S) : SR K m H' S ∧ Ext m H m H' := by
  obtain ⟨l, el⟩ := e.pre
  subst el
  refine ⟨⟨x.nd, x.len, fun i a o h1 h2 => ?_⟩, ⟨[], by simp⟩, fun a h => .inl h, e.keep⟩
  have hi := (List.getElem?_eq_some_iff.mp h1).1
  have hs := (List.getElem?_eq_some_iff.mp h2).1
  refine (x'.at_ i a o (by rw [List.getElem?_append_left hi]; exact h1) ?_).down (x.at_ i a o h1 h2).bel
  rw [← h, List.getElem?_take] at h2
  rw [if_pos hs] at h2
  exact h2
theorem qv_gc {d : D} {v : V} (x : SR K m H S) (q : QV K m H S' d v H') (h : S'.take S.length = S) (b : below S.length (fz S' S.length d) = true) : QV K m H S (fz S' S.length d) v H' := by
  obtain ⟨m', e, x', w⟩ := q
  obtain ⟨y1, y2⟩ := sr_gc x e x' h
  obtain ⟨l, el⟩ := e.pre
  subst el
  rw [← x.len] at b ⊢
  exact ⟨m, y2, y1, w.fz_down x' b⟩
theorem wl_gc {C : Addr} {fs : List (Str × D)} {cls : Value} {dd : Option Addr} (x : SR K m H S) (q : WL K m H C fs S' cls dd H') (h : S'.take S.length = S) (b : belowf S.length fs = true) : WL K m H C fs S cls dd H' := by
  obtain ⟨h1, m', h2, e, x'⟩ := q
  obtain ⟨y1, y2⟩ := sr_gc x e x' h
  obtain ⟨l, el⟩ := e.pre
  subst el
  rw [← x.len] at b
  refine ⟨h1, m, ?_, y2, y1⟩
  rcases h2 with ⟨a, vs, h2, h3, w⟩ | h2
  · exact .inl ⟨a, vs, h2, h3, w.down b⟩
  · exact .inr h2
end
theorem FnL.le {P : Program} {w : World} {K : PySem.W.Frag} {mg : Str → Option Value} {base : Heap} {k : Nat} {f : Addr} {fd : FuncData} {ps : List Str} {g g' : F} (h : FnL P w K mg base k f fd ps g) (hle : ∀ ds S, ds.length = ps.length → RLe S (g' ds S) (g ds S)) : FnL P w K mg base k f fd ps g' := by
  refine FnOk.imp h fun vs H Q E ⟨hl, m, S, ds, x, r, nb, q1, q2⟩ => ⟨hl, m, S, ds, x, r, ?_⟩
  have z := hle ds S (by rw [← r.length]; exact hl)
  generalize hA : g' ds S = A at z nb q1 q2
  generalize hB : g ds S = B at z
  cases z with
  | bad r => exact absurd rfl nb
  | refl r => exact ⟨nb, q1, q2⟩
  | gc d d' S' h e b =>
    subst e
    refine ⟨fun z => (nomatch z), fun d1 S1 e v H' qv => ?_, fun C fs S1 e => (nomatch e)⟩
    cases e
    exact q1 _ _ rfl v H' (qv_gc x qv h b)
  | gcx C fs S' h b =>
    refine ⟨fun z => (nomatch z), fun d1 S1 e => (nomatch e), fun C1 fs1 S1 e cls dd H' wl => ?_⟩
    cases e
    exact q2 _ _ _ rfl cls dd H' (wl_gc x wl h b)

/-! ### a new object -/
section
variable {X : Cx} {e : Expr} {pos p : Pos} {es : List Expr} {t : LA} {x : Str} {k : Nat} {f C : Addr} {fd : FuncData} {ps : List Str} {g : F}
/-- what comes of C(..) by its __init__ -/
def mkF (C : Addr) (g : F) : F := fun ds S => (g (.ref S.length :: ds) (S ++ [.ins C []])).bind fun d S1 => match d with
  | .non => .ok (.ref S.length) S1
  | _ => .bad
theorem run_makeL {pins : List (Addr × Obj)} {σ : L2.St} {H : Hp} {s : Shared} {us ds0 : List Value} {vs dvs : List V} {m : List Addr} {S : Sto} {ds dd : List D} {gn : F} (M : Mk X.K C f) (Fn : FnL X.prog X.w X.K X.mg X.base k f fd ps g) (hr : Room (k + 1) X.A) (hb : Binds X.K fd ps ds0) (hd : Vals dvs ds0) (hdd : VRs X.K m H dvs dd)
    (I : Inv X pins σ H s) (x : SR X.K m H S) (r : Vals vs us) (rd : VRs X.K m H vs ds) (hl : (vs ++ dvs).length + 1 = ps.length) (hg : RLe S (gn (ds ++ dd) S) (mkF C g (ds ++ dd) S)) (hp : Hope X σ m H (gn (ds ++ dd) S)) :
    wpAny (model X.prog X.w) X.A (call (.ref C) us) (VPr X pins σ m H (gn (ds ++ dd) S)) X.xe s := by
  -- the instance stands at pa, its dict at pd
  obtain ⟨pd, hpd⟩ : ∃ a, a = s.heap.objs.size := ⟨_, rfl⟩
  obtain ⟨pa, hpa⟩ : ∃ a, a = s.heap.objs.size + 1 := ⟨_, rfl⟩
  have n1 : H pa = none := hpa ▸ I.hok.fresh (Nat.le_succ _)
  have n2 : H pd = none := hpd ▸ I.hok.fresh (Nat.le_refl _)
  have ne : pa ≠ pd := by omega
  have I2 := Inv.made (C := C) I
  rw [← hpa, ← hpd] at I2
  have r2 : Vals (V.ref pa :: (vs ++ dvs)) (Value.ref pa :: (us ++ ds0)) := .cons rfl (r.append hd)
  have n1' : (upd H pd (.own pa)) pa = none := by rw [upd_ne ne]; exact n1
  have x1 : SR X.K m (upd H pd (.own pa)) S := x.fresh n2
  have E1 : Ext m H m (upd H pd (.own pa)) := Ext.fresh n2
  obtain ⟨E2, x2⟩ := x1.snoc (o := .ins C pd []) (ob := .ins C []) n1' fun m' H' _ q => .ins q .nil
  have E3 := E1.trans E2
  have rd2 : VRs X.K (m ++ [pa]) (upd (upd H pd (.own pa)) pa (.ins C pd [])) (V.ref pa :: (vs ++ dvs)) (D.ref S.length :: (ds ++ dd)) := .cons (.ref (by rw [← x.len]; simp)) ((rd.append hdd).ext E3 x.muts)
  have nb : mkF C g (ds ++ dd) S ≠ .bad := fun z => by
    rw [z] at hg
    generalize gn (ds ++ dd) S = A at hg hp
    cases hg with
    | bad => exact hp.1 rfl
    | refl => exact hp.1 rfl
  have hsp : spL X.K g ps.length (V.ref pa :: (vs ++ dvs)) (upd (upd H pd (.own pa)) pa (.ins C pd [])) (fun v H' => ∃ d S', g (.ref S.length :: (ds ++ dd)) (S ++ [.ins C []]) = .ok d S' ∧ QV X.K (m ++ [pa]) (upd (upd H pd (.own pa)) pa (.ins C pd [])) S' d v H')
      (fun cls d H' => ∃ C' fs S', g (.ref S.length :: (ds ++ dd)) (S ++ [.ins C []]) = .exc C' fs S' ∧ WL X.K (m ++ [pa]) (upd (upd H pd (.own pa)) pa (.ins C pd [])) C' fs S' cls d H') :=
    ⟨by rw [List.length_cons]; exact hl, _, _, _, x2, rd2, fun z => nb (by unfold mkF; rw [z]; rfl), fun d S' q v H' z => ⟨d, S', q, z⟩, fun C' fs S' q cls d H' z => ⟨C', fs, S', q, z⟩⟩
  have hl2 : (Value.ref pa :: us ++ ds0).length = ps.length := by rw [List.cons_append, ← r2.length, List.length_cons]; exact hl
  refine wpAny_call (make_map (f := f) I.kIn M.makes M.init (beq_iff_eq.mp M.fn) ?_)
  rw [← hpa, ← hpd]
  refine codeAny_mono (Fn.run _ X.stack _ _ ⟨Value.ref pa :: us, []⟩ (Value.ref pa :: (us ++ ds0)) _ _ _ (hr.make C us []) (I2.env0.make C us []) (hb _ (Value.ref pa :: us) I2.kIn hl2) r2 hsp) fun r s' hq => ?_
  cases r with
  | error e =>
    obtain ⟨C', fs, S', q, w0⟩ : ∃ C' fs S', g (.ref S.length :: (ds ++ dd)) (S ++ [.ins C []]) = .exc C' fs S' ∧ XE X (fun cls d σ' H' => σ' = σ ∧ WL X.K m H C' fs S' cls d H') e s' := by
      have hx := XE.of_call (W := fun cls d σ' H' => σ' = σ ∧ ∃ C' fs S', g (.ref S.length :: (ds ++ dd)) (S ++ [.ins C []]) = .exc C' fs S' ∧ WL X.K m H C' fs S' cls d H') I2 (fun cls d H' w => by
        obtain ⟨C', fs, S', q, w⟩ := w
        exact ⟨rfl, C', fs, S', q, w.ext E3⟩) hq
      obtain ⟨_, _, _, _, _, _, _, _, _, _, _, _, _, _, _, _, _, C', fs, S', q, _⟩ := id hx
      refine ⟨C', fs, S', q, XE.imp hx fun cls d σ' H' w => ?_⟩
      obtain ⟨w1, C2, fs2, S2, q2, w2⟩ := w
      rw [q] at q2
      cases q2
      exact ⟨w1, w2⟩
    have e0 : mkF C g (ds ++ dd) S = .exc C' fs S' := by unfold mkF; rw [q]; rfl
    rw [e0] at hg
    generalize hA : gn (ds ++ dd) S = A at hg hp
    cases hg with
    | bad => exact absurd rfl hp.1
    | refl => exact hp.2 _ _ _ rfl e s' w0
    | gcx _ _ _ h b => exact hp.2 _ _ _ rfl e s' (XE.imp w0 fun cls d σ' H' w => ⟨w.1, wl_gc x w.2 h b⟩)
  | ok fl =>
    cases fl with
    | ret u =>
      obtain ⟨v, H', I3, rv, d, S', q, m', e', x', w'⟩ := I2.after hq
      have hn : d = .non := by
        cases d with
        | non => rfl
        | _ => exact absurd (by unfold mkF; rw [q]; rfl) nb
      subst hn
      cases w'
      obtain rfl : u = Value.none := rv
      have e0 : mkF C g (ds ++ dd) S = .ok (.ref S.length) S' := by unfold mkF; rw [q]; rfl
      have qv : QV X.K m H S' (.ref S.length) (.ref pa) H' := ⟨m', E3.trans e', x', .ref (e'.get (by rw [← x.len]; simp))⟩
      refine ⟨rfl, ?_⟩
      rw [e0] at hg
      generalize hA : gn (ds ++ dd) S = A at hg hp
      cases hg with
      | bad => exact absurd rfl hp.1
      | refl =>
        obtain ⟨m2, z1, z2, z3⟩ := qv
        exact ⟨_, _, rfl, .ref pa, H', m2, I3, rfl, z1, z2, z3⟩
      | gc _ _ _ h e b =>
        subst e
        obtain ⟨m2, z1, z2, z3⟩ := qv_gc x qv h b
        exact ⟨_, _, rfl, .ref pa, H', m2, I3, rfl, z1, z2, z3⟩
    | next => exact False.elim hq
    | brk => exact False.elim hq
    | cont => exact False.elim hq
theorem pel_make {n : Nat} {ds0 : List Value} {dvs : List V} {dd : List D} {gn : F} (M : Mk X.K C f) (Fn : FnL X.prog X.w X.K X.mg X.base k f fd ps g) (hle : ∀ ds S, RLe S (gn ds S) (mkF C g ds S)) (hr : Room (k + 1) X.A) (hg : Gl X x) (hm : X.mg x = some (.ref C)) (hb : Binds X.K fd ps ds0) (hd : Dfl X.K dvs ds0 dd)
    (ha : PAL X (e :: es) t) (hdb : (x == ("__debug__" : Str)) = false := by decide) (he : starEach (e :: es) X.env = (false, eval e X.env) :: starEach es X.env := by rfl) (hpl : (backTo pos (starEach es X.env)).any (·.1) = false := by rfl) (hps : ps.length = n + 1 := by rfl) :
    PEL X (.Call (.Name x p) (e :: es) [] pos) (lCall n gn dd t) := by
  refine ⟨fun pins s σ H m ρ S I x r hp => ?_⟩
  refine wpAny_Call_Name_kw (ld_glob I hg hm ?_ hdb)
  refine PySem.W.callWith_K (h₀ := X.base) I.ok.mod.kin M.kp (run_seqA ha I x r hp fun ds S1 q1 vs us s1 H1 m1 I1 rv e1 x1 w1 r1 hp1 => ⟨I1.kIn, ?_⟩) he hpl
  have hl := hope_if hp1
  rw [if_pos hl] at hp1
  have e0 : lCall n gn dd t ρ S = gn (ds ++ dd) S1 := by unfold lCall; rw [q1, bind_ok, if_pos hl]
  rw [e0]
  exact thn (run_makeL M Fn hr hb hd.vals (hd.rel _ _) I1 x1 rv w1 (by rw [List.length_append, w1.length, (hd.rel m1 H1).length]; omega) (hle _ _) hp1) fun _ _ z => z.left e1
end
end MP

namespace MP
open PySem PySem.Spec PyProof.Rows L2

/-! ### readings of the layer beneath -/
/-- no exception -/
def tL0 (K : PySem.W.Frag) (l : LE) : TE := fun σ H Q => ∃ m ρ S, SR K m H S ∧ ER K m H σ ρ ∧ ∃ d S', l ρ S = .ok d S' ∧ ∀ v H', QV K m H S' d v H' → Q v H'
def tT0 (K : PySem.W.Frag) (l : LT) : TT := fun σ H Q => ∃ m ρ S, SR K m H S ∧ ER K m H σ ρ ∧ ∃ b S', l ρ S = .ok b S' ∧ ∀ H' m', Ext m H m' H' → SR K m' H' S' → Q b H'
theorem PEL.pe {X : Cx} {e : Expr} {l : LE} (h : PEL X e l) : PE X e (tL0 X.K l) := by
  refine ⟨fun pins s σ H Q I ⟨m, ρ, S, x, r, d, S', q, k⟩ => ?_⟩
  have z := h.run pins s σ H m ρ S I x r (by rw [q]; exact Hope.ok)
  rw [q] at z
  refine thn z fun u s' ⟨d', S2, e, v, H', m', I', rv, e', x', w⟩ => ?_
  cases e
  exact ⟨v, H', I', rv, k v H' ⟨m', e', x', w⟩⟩
theorem PTL.pt {X : Cx} {e : Expr} {l : LT} (h : PTL X e l) : PT X e (tT0 X.K l) := by
  refine ⟨fun pins s σ H Q I ⟨m, ρ, S, x, r, d, S', q, k⟩ => ?_⟩
  have z := h.run pins s σ H m ρ S I x r (by rw [q]; exact Hope.ok)
  rw [q] at z
  refine thn z fun u s' ⟨S2, H', m', e, I', e', x'⟩ => ?_
  cases e
  exact ⟨H', I', k H' m' e' x'⟩
theorem PEL.of_pe {X : Cx} {e : Expr} {l : LE} {t : TE} (h : PE X e t) (ht : ∀ σ H m ρ S, SR X.K m H S → ER X.K m H σ ρ → Hope X σ m H (l ρ S) → t σ H (fun v H' => ∃ d S', l ρ S = .ok d S' ∧ QV X.K m H S' d v H')) : PEL X e l :=
  ⟨fun pins s σ H m ρ S I x r hp => thn (h.run pins s σ H _ I (ht σ H m ρ S x r hp)) fun u s' ⟨v, H', I', rv, d, S', q, m', e, x', w⟩ => ⟨d, S', q, v, H', m', I', rv, e, x', w⟩⟩

/-! ### statements -/
inductive Fl where
  | nx (ρ : Ev) | rt (d : D) | bk (ρ : Ev) | ct (ρ : Ev) | ex (C : Addr) (fs : List (Str × D)) (ρ : Ev)
abbrev LS := Ev → Sto → R Fl
/-- behind: slots and heap by the store -/
def SV (K : PySem.W.Frag) (m : List Addr) (H : Hp) (ρ' : Ev) (S' : Sto) (σ' : L2.St) (H' : Hp) : Prop := ∃ m', Ext m H m' H' ∧ SR K m' H' S' ∧ ER K m' H' σ' ρ' ∧ ρ'.length = σ'.length
def WS (K : PySem.W.Frag) (m : List Addr) (H : Hp) (C : Addr) (fs : List (Str × D)) (ρ' : Ev) (S' : Sto) : WX := fun cls d σ' H' =>
  cls = .ref C ∧ ∃ (m' : List Addr), XD K m' H' d fs ∧ Ext m H m' H' ∧ SR K m' H' S' ∧ ER K m' H' σ' ρ' ∧ ρ'.length = σ'.length
/-- the reading: what is wanted at each of the ways out -/
structure HS (X : Cx) (D : Ends) (m : List Addr) (H : Hp) (r : R Fl) : Prop where
  ok : ∃ fl S', r = .ok fl S'
  nx : ∀ ρ' S', r = .ok (.nx ρ') S' → ∀ σ' H', SV X.K m H ρ' S' σ' H' → D.nx σ' H'
  rt : ∀ d S', r = .ok (.rt d) S' → ∀ v H', QV X.K m H S' d v H' → D.rt v H'
  bk : ∀ ρ' S', r = .ok (.bk ρ') S' → ∀ σ' H', SV X.K m H ρ' S' σ' H' → D.bk σ' H'
  ct : ∀ ρ' S', r = .ok (.ct ρ') S' → ∀ σ' H', SV X.K m H ρ' S' σ' H' → D.ct σ' H'
  ex : ∀ C fs ρ' S', r = .ok (.ex C fs ρ') S' → ∀ u s', XE X (WS X.K m H C fs ρ' S') u s' → X.xe u s'
def tSL (X : Cx) (l : LS) : TS := fun D σ H => ∃ m ρ S, SR X.K m H S ∧ ER X.K m H σ ρ ∧ ρ.length = σ.length ∧ HS X D m H (l ρ S)
def PSL (X : Cx) (st : Stmt) (l : LS) : Prop := PS X st (tSL X l)
def PSsL (X : Cx) (st : List Stmt) (l : LS) : Prop := PSs X st (tSL X l)
section
variable {X : Cx} {D : Ends} {m m1 : List Addr} {H H1 : Hp} {r : R Fl} {σ : L2.St} {ρ : Ev} {S S1 : Sto}
theorem SV.left {K : PySem.W.Frag} {ρ' : Ev} {S' : Sto} {σ' : L2.St} {H' : Hp} (e : Ext m H m1 H1) (h : SV K m1 H1 ρ' S' σ' H') : SV K m H ρ' S' σ' H' := by
  obtain ⟨m', e', a, b, c⟩ := h
  exact ⟨m', e.trans e', a, b, c⟩
theorem QV.left {K : PySem.W.Frag} {d : MP.D} {S' : Sto} {v : V} {H' : Hp} (e : Ext m H m1 H1) (h : QV K m1 H1 S' d v H') : QV K m H S' d v H' := by
  obtain ⟨m', e', a, b⟩ := h
  exact ⟨m', e.trans e', a, b⟩
theorem WS.left {K : PySem.W.Frag} {C : Addr} {fs : List (Str × MP.D)} {ρ' : Ev} {S' : Sto} {cls : Value} {d : Option Addr} {σ' : L2.St} {H' : Hp} (e : Ext m H m1 H1) (h : WS K m1 H1 C fs ρ' S' cls d σ' H') : WS K m H C fs ρ' S' cls d σ' H' := by
  obtain ⟨h1, m', h2, h4, h5⟩ := h
  exact ⟨h1, m', h2, e.trans h4, h5⟩
theorem HS.ext (h : HS X D m H r) (e : Ext m H m1 H1) : HS X D m1 H1 r :=
  ⟨h.ok, fun ρ' S' q σ' H' z => h.nx ρ' S' q σ' H' (z.left e), fun d S' q v H' z => h.rt d S' q v H' (z.left e), fun ρ' S' q σ' H' z => h.bk ρ' S' q σ' H' (z.left e), fun ρ' S' q σ' H' z => h.ct ρ' S' q σ' H' (z.left e),
    fun C fs ρ' S' q u s' z => h.ex C fs ρ' S' q u s' (XE.imp z fun _ _ _ _ w => w.left e)⟩
/-- an exception of an expression is one of the statement -/
def liftX {α : Type} (ρ : Ev) (r : R α) (f : α → Sto → R Fl) : R Fl := match r with
  | .ok a S => f a S
  | .exc C fs S => .ok (.ex C fs ρ) S
  | .bad => .bad
theorem HS.hope {α : Type} {r : R α} {f : α → Sto → R Fl} (h : HS X D m H (liftX ρ r f)) (er : ER X.K m H σ ρ) (hl : ρ.length = σ.length) (x : SR X.K m H S) : Hope X σ m H r := by
  cases r with
  | bad => obtain ⟨fl, S', q⟩ := h.ok; cases q
  | ok a S => exact Hope.ok
  | exc C fs S' =>
    refine ⟨fun z => (nomatch z), fun C' fs' S'' q u s' z => ?_⟩
    cases q
    refine h.ex C fs ρ S' rfl u s' (XE.imp z fun cls d σ' H' w => ?_)
    obtain ⟨w0, w1, m', w2, w4, w5⟩ := w
    subst w0
    exact ⟨w1, m', w2, w4, w5, er.ext w4 x.muts, hl⟩
/-- an expression in a statement: what is told of it -/
theorem expr_in {e : Expr} {l : LE} (h : PEL X e l) {pins : List (Addr × Obj)} {s : Shared} (I : Inv X pins σ H s) (x : SR X.K m H S) (er : ER X.K m H σ ρ) (hl : ρ.length = σ.length) {f : MP.D → Sto → R Fl} (hs : HS X D m H (liftX ρ (l ρ S) f)) {Q : Value → Shared → Prop}
    (k : ∀ d S1, l ρ S = .ok d S1 → ∀ v u s1 H1 m1, Inv X pins σ H1 s1 → RelV v u → Ext m H m1 H1 → SR X.K m1 H1 S1 → VR X.K m1 H1 v d → ER X.K m1 H1 σ ρ → HS X D m1 H1 (f d S1) → Q u s1) :
    wpAny (model X.prog X.w) X.A (eval e X.env) Q X.xe s := by
  refine thn (h.run pins s σ H m ρ S I x er (hs.hope er hl x)) fun u s1 ⟨d, S1, q, v, H1, m1, I1, rv, e1, x1, w⟩ => ?_
  rw [q] at hs
  exact k d S1 q v u s1 H1 m1 I1 rv e1 x1 w (er.ext e1 x.muts) (HS.ext hs e1)
theorem test_in {e : Expr} {l : LT} (h : PTL X e l) {pins : List (Addr × Obj)} {s : Shared} (I : Inv X pins σ H s) (x : SR X.K m H S) (er : ER X.K m H σ ρ) (hl : ρ.length = σ.length) {f : Bool → Sto → R Fl} (hs : HS X D m H (liftX ρ (l ρ S) f)) {Q : Bool → Shared → Prop}
    (k : ∀ b S1, l ρ S = .ok b S1 → ∀ s1 H1 m1, Inv X pins σ H1 s1 → Ext m H m1 H1 → SR X.K m1 H1 S1 → ER X.K m1 H1 σ ρ → HS X D m1 H1 (f b S1) → Q b s1) :
    wpAny (model X.prog X.w) X.A (isTrue e X.env (eval e X.env)) Q X.xe s := by
  refine thn (h.run pins s σ H m ρ S I x er (hs.hope er hl x)) fun u s1 ⟨S1, H1, m1, q, I1, e1, x1⟩ => ?_
  rw [q] at hs
  exact k u S1 q s1 H1 m1 I1 e1 x1 (er.ext e1 x.muts) (HS.ext hs e1)
theorem sv_same (x : SR X.K m H S) (er : ER X.K m H σ ρ) (hl : ρ.length = σ.length) : SV X.K m H ρ S σ H := ⟨m, Ext.refl, x, er, hl⟩
end

section
variable {X : Cx} {st : Stmt} {rest : List Stmt} {l l' l1 l2 : LS} {e o i c : Expr} {le lo li : LE} {tc : LT} {pos pos' : Pos} {x : Str}
def lNext : LS := fun ρ S => .ok (.nx ρ) S
def Fl.go (l2 : LS) (fl : Fl) (S1 : Sto) : R Fl := match fl with
  | .nx ρ1 => l2 ρ1 S1
  | fl => .ok fl S1
def lSeq (l1 l2 : LS) : LS := fun ρ S => (l1 ρ S).bind (Fl.go l2)
theorem pss_imp {sts : List Stmt} {t u : TS} (h : PSs X sts t) (k : ∀ D σ H, u D σ H → t D σ H) : PSs X sts u := ⟨fun pins s σ H D I q => h.run pins s σ H D I (k D σ H q)⟩
theorem ps_imp {st : Stmt} {t u : TS} (h : PS X st t) (k : ∀ D σ H, u D σ H → t D σ H) : PS X st u := ⟨fun pins s σ H D I q => h.run pins s σ H D I (k D σ H q)⟩
theorem pssl_nil : PSsL X [] lNext := pss_imp pss_nil fun D σ H ⟨m, ρ, S, x, er, hl, h⟩ => h.nx ρ S rfl σ H (sv_same x er hl)
theorem pssl_one (h : PSL X st l) : PSsL X [st] l := pss_one h
theorem bind_nbad {α β : Type} {r : R α} {f : α → Sto → R β} {b : β} {S' : Sto} (h : r.bind f = .ok b S') : ∃ a S, r = .ok a S ∧ f a S = .ok b S' := by
  cases r with
  | ok a S => exact ⟨a, S, rfl, h⟩
  | exc _ _ _ => cases h
  | bad => cases h
theorem HS.seq {D : Ends} {m : List Addr} {H : Hp} {ρ : Ev} {S : Sto} (h : HS X D m H (lSeq l1 l2 ρ S)) : HS X { D with nx := fun σ' H' => tSL X l2 D σ' H' } m H (l1 ρ S) := by
  obtain ⟨fl, S', q⟩ := h.ok
  obtain ⟨a, S1, q1, q2⟩ := bind_nbad q
  have key : lSeq l1 l2 ρ S = Fl.go l2 a S1 := by unfold lSeq; rw [q1]; rfl
  refine ⟨⟨a, S1, q1⟩, fun ρ' S2 e σ' H' z => ?_, fun d S2 e v H' z => ?_, fun ρ' S2 e σ' H' z => ?_, fun ρ' S2 e σ' H' z => ?_, fun C fs ρ' S2 e u s' z => ?_⟩
  · rw [q1] at e
    cases e
    obtain ⟨m', e', x', er', hl'⟩ := z
    rw [key] at h
    exact ⟨m', ρ', S1, x', er', hl', HS.ext h e'⟩
  · rw [q1] at e
    cases e
    exact h.rt d S1 key v H' z
  · rw [q1] at e
    cases e
    exact h.bk ρ' S1 key σ' H' z
  · rw [q1] at e
    cases e
    exact h.ct ρ' S1 key σ' H' z
  · rw [q1] at e
    cases e
    exact h.ex C fs ρ' S1 key u s' z
theorem pssl_cons (h1 : PSL X st l1) (h2 : PSsL X rest l2) : PSsL X (st :: rest) (lSeq l1 l2) :=
  pss_imp (pss_cons h1 h2) fun D σ H ⟨m, ρ, S, x, er, hl, h⟩ => ⟨m, ρ, S, x, er, hl, h.seq⟩
def lBrk : LS := fun ρ S => .ok (.bk ρ) S
def lCont : LS := fun ρ S => .ok (.ct ρ) S
/-- an expression whose value is dropped -/
def lExpr (le : LE) : LS := fun ρ S => liftX ρ (le ρ S) fun _ S1 => .ok (.nx ρ) S1
theorem psl_expr (he : PEL X e le) (hs : swapsWith e none pos.line X.env = pure false := by rfl) : PSL X (.Expr e pos) (lExpr le) := by
  refine ⟨fun pins s σ H D I ⟨m, ρ, S, x, er, hl, h⟩ => ?_⟩
  exact wpAny_Expr_any (expr_in he I x er hl h fun d S1 q v u s1 H1 m1 I1 rv e1 x1 w er1 h1 => ⟨σ, H1, I1, h1.nx ρ S1 rfl σ H1 (sv_same x1 er1 hl)⟩) I.quiet hs
def lRet (le : LE) : LS := fun ρ S => liftX ρ (le ρ S) fun d S1 => .ok (.rt d) S1
theorem psl_ret (he : PEL X e le) : PSL X (.Return (some e) pos) (lRet le) := by
  refine ⟨fun pins s σ H D I ⟨m, ρ, S, x, er, hl, h⟩ => ?_⟩
  exact wpAny_Return_some (expr_in he I x er hl h fun d S1 q v u s1 H1 m1 I1 rv e1 x1 w er1 h1 => ⟨v, σ, H1, I1, rv, h1.rt d S1 rfl v H1 (qv_same x1 w)⟩)
def lRetN : LS := fun _ S => .ok (.rt .non) S
def lIfS (tc : LT) (l1 l2 : LS) : LS := fun ρ S => liftX ρ (tc ρ S) fun b S1 => if b = true then l1 ρ S1 else l2 ρ S1
theorem psl_if {a b : List Stmt} (hc : PTL X c tc) (ha : PSsL X a l1) (hb : PSsL X b l2) : PSL X (.If c a b pos) (lIfS tc l1 l2) := by
  refine ⟨fun pins s σ H D I ⟨m, ρ, S, x, er, hl, h⟩ => ?_⟩
  refine wpAny_If (test_in hc I x er hl h fun k S1 q s1 H1 m1 I1 e1 x1 er1 h1 => ?_)
  cases k with
  | true => exact ha.run pins s1 σ H1 D I1 ⟨m1, ρ, S1, x1, er1, hl, h1⟩
  | false => exact hb.run pins s1 σ H1 D I1 ⟨m1, ρ, S1, x1, er1, hl, h1⟩
/-- name = e -/
def lSet (i : Nat) (le : LE) : LS := fun ρ S => liftX ρ (le ρ S) fun d S1 => .ok (.nx (ρ.set i (some d))) S1
theorem psl_set {i : Nat} (hN : X.N.Nodup) (he : PEL X e le) (hi : X.N[i]? = some x := by rfl) (hx : Loc X.env.scope x := by first | exact .inl rfl | exact .inr rfl) (hs : swapsWith e (some (.Name x pos')) pos.line X.env = pure false := by rfl) (hf : X.fn x = true ∨ X.env.scope.names.lookup x = some .local := by first | exact .inl rfl | exact .inr rfl | assumption) :
    PSL X (.Assign [.Name x pos'] e pos) (lSet i le) := by
  refine ⟨fun pins s σ H D I ⟨m, ρ, S, x0, er, hl, h⟩ => ?_⟩
  refine wpAny_Assign_Name (expr_in he I x0 er hl h fun d S1 q v u s1 H1 m1 I1 rv e1 x1 w er1 h1 => ?_) hs
  exact store_ok I1 hN hi hx rv (fun s2 I2 => ⟨_, H1, I2, h1.nx _ S1 rfl _ H1 ⟨m1, Ext.refl, x1, er1.set w, by simp [hl]⟩⟩) hf
end
end MP

namespace MP
open PySem PySem.Spec PyProof.Rows L2

/-! ### while -/
def tTX (X : Cx) (l : LT) : TT := fun σ H Q => ∃ m ρ S, SR X.K m H S ∧ ER X.K m H σ ρ ∧ Hope X σ m H (l ρ S) ∧ ∀ b S', l ρ S = .ok b S' → ∀ H' m', Ext m H m' H' → SR X.K m' H' S' → Q b H'
/-- a loop's turn forgets what was not there ahead of the loop -/
def wk : Ev → Ev → Ev
  | _, [] => []
  | [], _ :: bs => none :: wk [] bs
  | none :: as, _ :: bs => none :: wk as bs
  | some _ :: as, b :: bs => b :: wk as bs
theorem wk_length : ∀ (as bs : Ev), (wk as bs).length = bs.length
  | _, [] => by cases ‹Ev› <;> rfl
  | [], _ :: bs => by simp [wk, wk_length]
  | none :: as, _ :: bs => by simp [wk, wk_length]
  | some _ :: as, b :: bs => by simp [wk, wk_length]
theorem wk_some : ∀ {as bs : Ev} {i : Nat} {d : D}, (wk as bs)[i]? = some (some d) → bs[i]? = some (some d)
  | as, [], i, d, h => by cases as <;> simp [wk] at h
  | [], b :: bs, 0, d, h => by simp [wk] at h
  | [], b :: bs, i + 1, d, h => by
    simp only [wk, List.getElem?_cons_succ] at h ⊢
    exact wk_some h
  | none :: as, b :: bs, 0, d, h => by simp [wk] at h
  | none :: as, b :: bs, i + 1, d, h => by
    simp only [wk, List.getElem?_cons_succ] at h ⊢
    exact wk_some h
  | some _ :: as, b :: bs, 0, d, h => by simpa [wk] using h
  | some _ :: as, b :: bs, i + 1, d, h => by
    simp only [wk, List.getElem?_cons_succ] at h ⊢
    exact wk_some h
theorem SV.wk {K : PySem.W.Frag} {m : List Addr} {H : Hp} {ρ' : Ev} {S' : Sto} {σ' : L2.St} {H' : Hp} (ρ0 : Ev) (h : SV K m H ρ' S' σ' H') : SV K m H (MP.wk ρ0 ρ') S' σ' H' := by
  obtain ⟨m', a, b, c, d⟩ := h
  exact ⟨m', a, b, ⟨fun i x e => c.at_ i x (wk_some e), by rw [wk_length]; exact d⟩, by rw [wk_length]; exact d⟩
def Fl.loop (ρ0 : Ev) (k : LS) (fl : Fl) (S : Sto) : R Fl := match fl with
  | .nx ρ => k (wk ρ0 ρ) S
  | .ct ρ => k (wk ρ0 ρ) S
  | .bk ρ => .ok (.nx (wk ρ0 ρ)) S
  | fl => .ok fl S
def whileG (ρ0 : Ev) (tc : LT) (lb : LS) : Nat → LS
  | 0 => fun _ _ => .bad
  | n + 1 => fun ρ S => liftX ρ (tc ρ S) fun b S1 => if b = true then (lb ρ S1).bind (Fl.loop ρ0 (whileG ρ0 tc lb n)) else .ok (.nx ρ) S1
def lWhile (n : Nat) (tc : LT) (lb : LS) : LS := fun ρ S => whileG ρ tc lb n ρ S
theorem HS.loop {X : Cx} {D : Ends} {m : List Addr} {H : Hp} {l k : LS} {ρ ρ0 : Ev} {S : Sto} (h : HS X D m H ((l ρ S).bind (Fl.loop ρ0 k))) : HS X { D with nx := fun σ' H' => tSL X k D σ' H', ct := fun σ' H' => tSL X k D σ' H', bk := D.nx } m H (l ρ S) := by
  obtain ⟨fl, S', q⟩ := h.ok
  obtain ⟨a, S1, q1, q2⟩ := bind_nbad q
  have key : (l ρ S).bind (Fl.loop ρ0 k) = Fl.loop ρ0 k a S1 := by rw [q1]; rfl
  rw [key] at h
  refine ⟨⟨a, S1, q1⟩, fun ρ' S2 e σ' H' z => ?_, fun d S2 e v H' z => ?_, fun ρ' S2 e σ' H' z => ?_, fun ρ' S2 e σ' H' z => ?_, fun C fs ρ' S2 e u s' z => ?_⟩
  · rw [q1] at e
    cases e
    obtain ⟨m', e', x', er', hl'⟩ := z.wk ρ0
    exact ⟨m', _, S1, x', er', hl', HS.ext h e'⟩
  · rw [q1] at e
    cases e
    exact h.rt d S1 rfl v H' z
  · rw [q1] at e
    cases e
    exact h.nx _ S1 rfl σ' H' (z.wk ρ0)
  · rw [q1] at e
    cases e
    obtain ⟨m', e', x', er', hl'⟩ := z.wk ρ0
    exact ⟨m', _, S1, x', er', hl', HS.ext h e'⟩
  · rw [q1] at e
    cases e
    exact h.ex C fs ρ' S1 rfl u s' z
/-! ### what is walked -/
/-- the items, and what must stay of the store meanwhile -/
structure Its' where
  items : List D
  chk : Sto → Prop
abbrev LI := Ev → Sto → R Its'
/-- what a turn hands over: a thing of the layer, or a new tuple of such -/
def YS (K : PySem.W.Frag) (m : List Addr) (H Hx : Hp) (x : V) (H' : Hp) (d : D) : Prop :=
  (H' = Hx ∧ VR K m H x d) ∨ ∃ T ws ds, Hx T = none ∧ H' = upd Hx T (.tup ws) ∧ x = .ref T ∧ d = .tup ds ∧ VRs K m H ws ds
def Ylds (K : PySem.W.Frag) (J : It) (m1 : List Addr) (H1 : Hp) (it : Its') : Prop := ∀ m2 H2 S2 Hx, Ext m1 H1 m2 H2 → SR K m2 H2 S2 → it.chk S2 → (∀ a o, H2 a = some o → Hx a = some o) →
  (∀ (i : Nat) (d : D), it.items[i]? = some d → J.go i Hx ∧ ∀ x H', J.yld i Hx x H' → YS K m2 H2 Hx x H' d) ∧ ∀ i, it.items.length ≤ i → J.stop i Hx
def tIL (X : Cx) (li : LI) : TI := fun σ H Rr => ∃ m ρ S, SR X.K m H S ∧ ER X.K m H σ ρ ∧ Hope X σ m H (li ρ S) ∧ ∀ it S1, li ρ S = .ok it S1 → ∀ J H1 m1, Ext m H m1 H1 → SR X.K m1 H1 S1 → Ylds X.K J m1 H1 it → Rr J H1
def PIL (X : Cx) (tg iter : Expr) (li : LI) : Prop := PI X tg iter (tIL X li)
def iterOf (S : Sto) : D → Option Its'
  | .lst xs => some ⟨xs, fun _ => True⟩
  | .tup xs => some ⟨xs, fun _ => True⟩
  | .ftup xs => some ⟨xs, fun _ => True⟩
  | .str z => some ⟨z.cps.toList.map fun c => .str ⟨#[c]⟩, fun _ => True⟩
  | .ref i => match S[i]? with
    | some (.lst xs) => some ⟨xs, fun S' => S'[i]? = some (.lst xs)⟩
    | _ => none
  | _ => none
def liftI (o : Option Its') (S : Sto) : R Its' := match o with
  | some d => .ok d S
  | none => .bad
def lIter (l : LE) : LI := fun ρ S => (l ρ S).bind fun d S1 => liftI (iterOf S1 d) S1
theorem yl_list {K : PySem.W.Frag} {m1 : List Addr} {H1 : Hp} {a : Addr} {vs : List V} {xs : List D} (mu : ∀ a ∈ m1, Mut (H1 a)) (n : a ∉ m1) (h : Rd H1 a (.lst vs)) (r : VRs K m1 H1 vs xs) : Ylds K (Itl K a) m1 H1 ⟨xs, fun _ => True⟩ := fun m2 H2 S2 Hx e x _ sup => by
  have h2 := e.rd n h
  have h3 : Rd Hx a (.lst vs) := by
    rcases h2 with h2 | ⟨o, h2⟩
    · exact .inl (sup _ _ h2)
    · exact .inr ⟨o, sup _ _ h2⟩
  have r2 := r.ext e mu
  refine ⟨fun i d hi => ?_, fun i hi => ⟨vs, .inl h3, by rw [r.length]; exact hi⟩⟩
  obtain ⟨v, hv, w⟩ := r2.getr hi
  refine ⟨⟨vs, v, .inl h3, hv⟩, fun y H' z => .inl ⟨z.1, ?_⟩⟩
  have := z.2 vs (.inl h3)
  rw [hv] at this
  cases this
  exact w
theorem yl_listK {K : PySem.W.Frag} {m1 : List Addr} {H1 : Hp} {a : Addr} {vs : List V} {xs : List D} (mu : ∀ a ∈ m1, Mut (H1 a)) (h : ∀ H, SqL K H a vs) (r : VRs K m1 H1 vs xs) : Ylds K (Itl K a) m1 H1 ⟨xs, fun _ => True⟩ := fun m2 H2 S2 Hx e x _ sup => by
  have r2 := r.ext e mu
  refine ⟨fun i d hi => ?_, fun i hi => ⟨vs, h _, by rw [r.length]; exact hi⟩⟩
  obtain ⟨v, hv, w⟩ := r2.getr hi
  refine ⟨⟨vs, v, h _, hv⟩, fun y H' z => .inl ⟨z.1, ?_⟩⟩
  have := z.2 vs (h _)
  rw [hv] at this
  cases this
  exact w
theorem yl_ref {K : PySem.W.Frag} {m1 : List Addr} {H1 : Hp} {a : Addr} {xs : List D} {j : Nat} (hj : m1[j]? = some a) : Ylds K (Itl K a) m1 H1 ⟨xs, fun S' => S'[j]? = some (.lst xs)⟩ := fun m2 H2 S2 Hx e x c sup => by
  have z := x.at_ j a _ (e.get hj) c
  cases z with
  | lst h r =>
    rename_i vs
    have h3 : SqL K Hx a vs := SqL.of (sup _ _ h)
    refine ⟨fun i d hi => ?_, fun i hi => ⟨vs, h3, by rw [r.length]; exact hi⟩⟩
    obtain ⟨v, hv, w⟩ := r.getr hi
    refine ⟨⟨vs, v, h3, hv⟩, fun y H' z => .inl ⟨z.1, ?_⟩⟩
    have := z.2 vs h3
    rw [hv] at this
    cases this
    exact w
theorem yl_tup {K : PySem.W.Frag} {m1 : List Addr} {H1 : Hp} {a : Addr} {vs : List V} {xs : List D} (mu : ∀ a ∈ m1, Mut (H1 a)) (h : Rd H1 a (.tup vs)) (r : VRs K m1 H1 vs xs) : Ylds K (Itt K a) m1 H1 ⟨xs, fun _ => True⟩ := fun m2 H2 S2 Hx e x _ sup => by
  have h3 : SqT K Hx a vs := SqT.rd (Rd.sup sup (e.rd (fun z => not_mut_tup h (mu a z)) h))
  have r2 := r.ext e mu
  refine ⟨fun i d hi => ?_, fun i hi => ⟨vs, h3, by rw [r.length]; exact hi⟩⟩
  obtain ⟨v, hv, w⟩ := r2.getr hi
  refine ⟨⟨vs, v, h3, hv⟩, fun y H' z => .inl ⟨z.1, ?_⟩⟩
  have := z.2 vs h3
  rw [hv] at this
  cases this
  exact w
theorem yl_str {K : PySem.W.Frag} {m1 : List Addr} {H1 : Hp} {z : Str} : Ylds K (L2.Its z) m1 H1 ⟨z.cps.toList.map fun c => .str ⟨#[c]⟩, fun _ => True⟩ := fun m2 H2 S2 Hx e x _ sup => by
  refine ⟨fun i d hi => ?_, fun i hi => by show z.cps.size ≤ i; simpa using hi⟩
  have hl : i < z.cps.size := by
    have := (List.getElem?_eq_some_iff.mp hi).1
    simpa using this
  refine ⟨hl, fun y H' q => .inl ⟨q.1, ?_⟩⟩
  obtain ⟨c, hc, rfl⟩ := q.2
  simp only [List.getElem?_map, Array.getElem?_toList, hc, Option.map_some, Option.some.injEq] at hi
  subst hi
  exact .str _
section
variable {X : Cx} {tg e : Expr} {l : LE} {t : LA} {p pos : Pos} {a b : Expr}
theorem pil_val (he : PEL X e l) : PIL X tg e (lIter l) := by
  refine ⟨fun pins s σ H Rr I ⟨m, ρ, S, x, er, hp, k⟩ => ?_⟩
  refine run_seq he I x er hp fun d S1 q v u s1 H1 m1 I1 rv e1 x1 w er1 hp1 => ?_
  cases q2 : iterOf S1 d with
  | none => rw [q2] at hp1; exact absurd rfl hp1.1
  | some it =>
    have q3 : lIter l ρ S = .ok it S1 := by unfold lIter; rw [q, bind_ok, q2]; rfl
    have K2 := fun J y => k it S1 q3 J H1 m1 e1 x1 y
    cases w with
    | @lst a vs xs n h r =>
      cases q2
      obtain rfl : u = Value.ref a := rv
      obtain ⟨its, rv', pp, hz⟩ := I1.list (.inl h)
      refine wpAny_pyIter_list pp.isList ?_
      refine ⟨s1.heap.objs.size, [s1.heap.objs.size], _, _, H1, rfl, I1.kept (t' := s1.toks) fun b o e => Heap.get?_push_of_some _ e, turn_list a _, ⟨_, Heap.get?_push_size _ rfl, rfl, rfl⟩, fun b hb => ?_, K2 _ (yl_list x1.muts n h r)⟩
      have e : b = s1.heap.objs.size := by simpa using hb
      subst e
      exact I1.fpOk (Nat.le_refl _) (I1.hok.fresh (Nat.le_refl _))
    | @lstK a vs xs ob its n hk h1 h2 h3 h4 h5 r =>
      cases q2
      obtain rfl : u = Value.ref a := rv
      obtain ⟨its, rv', pp, hz⟩ := I1.list (H := H1) (a := a) (.inr ⟨ob, its, n, hk, h1, h2, h3, h4, h5⟩)
      refine wpAny_pyIter_list pp.isList ?_
      refine ⟨s1.heap.objs.size, [s1.heap.objs.size], _, _, H1, rfl, I1.kept (t' := s1.toks) fun b o e => Heap.get?_push_of_some _ e, turn_list a _, ⟨_, Heap.get?_push_size _ rfl, rfl, rfl⟩, fun b hb => ?_, K2 _ (yl_listK x1.muts (fun _ => .inr ⟨ob, _, n, hk, h1, h2, h3, h4, h5⟩) r)⟩
      have e : b = s1.heap.objs.size := by simpa using hb
      subst e
      exact I1.fpOk (Nat.le_refl _) (I1.hok.fresh (Nat.le_refl _))
    | @tup a vs xs h r =>
      cases q2
      obtain rfl : u = Value.ref a := rv
      obtain ⟨its, rv', pp, hz⟩ := I1.tuple (SqT.of h)
      refine wpAny_pyIter_tuple (show s1.heap.IsTuple a its.toArray from pp) ?_
      refine ⟨s1.heap.objs.size, [s1.heap.objs.size], _, _, H1, rfl, I1.kept (t' := s1.toks) fun b o e => Heap.get?_push_of_some _ e, turn_tuple a _, ⟨_, Heap.get?_push_size _ rfl, rfl, rfl⟩, fun b hb => ?_, K2 _ (yl_tup x1.muts (.inl h) r)⟩
      have e : b = s1.heap.objs.size := by simpa using hb
      subst e
      exact I1.fpOk (Nat.le_refl _) (I1.hok.fresh (Nat.le_refl _))
    | @ftup a vs xs o hd h r =>
      cases q2
      obtain rfl : u = Value.ref a := rv
      obtain ⟨its, rv', pp, hz⟩ := I1.tuple (SqT.rd (.inr ⟨o, h⟩))
      refine wpAny_pyIter_tuple (show s1.heap.IsTuple a its.toArray from pp) ?_
      refine ⟨s1.heap.objs.size, [s1.heap.objs.size], _, _, H1, rfl, I1.kept (t' := s1.toks) fun b o e => Heap.get?_push_of_some _ e, turn_tuple a _, ⟨_, Heap.get?_push_size _ rfl, rfl, rfl⟩, fun b hb => ?_, K2 _ (yl_tup x1.muts (.inr ⟨o, h⟩) r)⟩
      have e : b = s1.heap.objs.size := by simpa using hb
      subst e
      exact I1.fpOk (Nat.le_refl _) (I1.hok.fresh (Nat.le_refl _))
    | str z =>
      cases q2
      obtain ⟨tk, rfl⟩ := rv
      cases ha : z.cps.all (· < 128)
      · exact wpAny_pyIter_wide ha (pi_one (tk := s1.toks) I1 _ (turn_str _ z tk "str_iterator" (.inr rfl)) ⟨_, Heap.get?_push_size _ rfl, rfl, rfl⟩ (K2 _ yl_str))
      · exact wpAny_pyIter_ascii ha (pi_one (tk := s1.toks) I1 _ (turn_str _ z tk "str_ascii_iterator" (.inl rfl)) ⟨_, Heap.get?_push_size _ rfl, rfl, rfl⟩ (K2 _ yl_str))
    | @ref i a h =>
      dsimp only [iterOf] at q2
      cases q4 : S1[i]? with
      | none => rw [q4] at q2; cases q2
      | some ob =>
        rw [q4] at q2
        cases ob with
        | lst xs =>
          cases q2
          have z := x1.at_ i a _ h q4
          cases z with
          | lst h' r =>
            obtain rfl : u = Value.ref a := rv
            obtain ⟨its, rv', pp, hz⟩ := I1.list (SqL.of h')
            refine wpAny_pyIter_list pp.isList ?_
            refine ⟨s1.heap.objs.size, [s1.heap.objs.size], _, _, H1, rfl, I1.kept (t' := s1.toks) fun b o e => Heap.get?_push_of_some _ e, turn_list a _, ⟨_, Heap.get?_push_size _ rfl, rfl, rfl⟩, fun b hb => ?_, K2 _ (yl_ref h)⟩
            have e : b = s1.heap.objs.size := by simpa using hb
            subst e
            exact I1.fpOk (Nat.le_refl _) (I1.hok.fresh (Nat.le_refl _))
        | dct _ _ => cases q2
        | ins _ _ => cases q2
    | _ => cases q2
/-- range(n) -/
def lRange1 (t : LA) : LI := fun ρ S => (t ρ S).bind fun ds S1 => match ds with
  | [.int j] => if -(2 ^ 62) ≤ j ∧ j < 2 ^ 62 then .ok ⟨(List.range j.toNat).map fun (i : Nat) => .int (i : Int), fun _ => True⟩ S1 else .bad
  | _ => .bad
theorem pil_range1 (hg : Gl X "range") (hm : X.mg "range" = none) (ha : PAL X [a] t) (hs : starEach [a] X.env = [(false, eval a X.env)] := by rfl) : PIL X tg (.Call (.Name "range" p) [a] [] pos) (lRange1 t) := by
  refine ⟨fun pins s σ H Rr I ⟨m, ρ, S, x, er, hp, k⟩ => ?_⟩
  refine Call_ (ld_blt I hg hm boot_range (PyProof.Rows.callWith_type1 (run_seqA ha I x er hp fun ds S1 q1 vs us s1 H1 m1 I1 rv e1 x1 w1 r1 hp1 => ?_) hs rfl))
  cases w1 with
  | nil => exact absurd rfl hp1.1
  | cons w w2 =>
    cases w2 with
    | cons _ _ => cases w <;> exact absurd rfl hp1.1
    | nil =>
      cases w with
      | int j =>
        have hz := hope_if hp1
        have q2 : lRange1 t ρ S = .ok ⟨(List.range j.toNat).map fun (i : Nat) => .int (i : Int), fun _ => True⟩ S1 := by unfold lRange1; rw [q1, bind_ok]; exact if_pos hz
        cases rv with
        | cons r rr =>
          cases rr
          obtain ⟨tk, rfl⟩ := r
          refine call_range_1 (range_it I1 (by omega) (by omega) hz.1 hz.2 (k _ S1 q2 _ H1 m1 e1 x1 fun m2 H2 S2 Hx e x _ sup => ⟨fun i d hi => ?_, fun i hi => ?_⟩))
          · have hl : i < (j - 0).toNat := by
              have := (List.getElem?_eq_some_iff.mp hi).1
              simpa using this
            refine ⟨hl, fun y H' q => .inl ⟨q.1, ?_⟩⟩
            rw [q.2]
            simp only [List.getElem?_map, List.getElem?_range (show i < j.toNat by simpa using hl), Option.map_some, Option.some.injEq] at hi
            subst hi
            rw [Int.zero_add]
            exact .int _
          · show (j - 0).toNat ≤ i
            simpa using hi
      | _ => exact absurd rfl hp1.1
/-- enumerate(a list) -/
def enumD (xs : List D) : List D := (List.range xs.length).zipWith (fun (i : Nat) x => .tup [.int (i : Int), x]) xs
def lEnum (t : LA) : LI := fun ρ S => (t ρ S).bind fun ds S1 => match ds with
  | [.lst xs] => .ok ⟨enumD xs, fun _ => True⟩ S1
  | _ => .bad
theorem enumD_get {xs : List D} {i : Nat} {d : D} (h : (enumD xs)[i]? = some d) : ∃ x, xs[i]? = some x ∧ d = .tup [.int (i : Int), x] := by
  unfold enumD at h
  rw [List.getElem?_zipWith] at h
  cases q : xs[i]? with
  | none => rw [q] at h; cases h2 : (List.range xs.length)[i]? <;> rw [h2] at h <;> cases h
  | some x =>
    have hl := (List.getElem?_eq_some_iff.mp q).1
    rw [q, List.getElem?_range hl] at h
    cases h
    exact ⟨x, rfl, rfl⟩
theorem enumD_length (xs : List D) : (enumD xs).length = xs.length := by simp [enumD]
theorem yl_enum {K : PySem.W.Frag} {m1 : List Addr} {H1 : Hp} {a : Addr} {vs : List V} {xs : List D} (mu : ∀ a ∈ m1, Mut (H1 a)) (n : a ∉ m1) (h : Rd H1 a (.lst vs)) (r : VRs K m1 H1 vs xs) : Ylds K (Ite K a) m1 H1 ⟨enumD xs, fun _ => True⟩ := fun m2 H2 S2 Hx e x _ sup => by
  have h2 := e.rd n h
  have h3 : SqL K Hx a vs := by
    rcases h2 with h2 | ⟨o, h2⟩
    · exact .inl (.inl (sup _ _ h2))
    · exact .inl (.inr ⟨o, sup _ _ h2⟩)
  have r2 := r.ext e mu
  refine ⟨fun i d hi => ?_, fun i hi => ⟨vs, h3, by rw [r.length, ← enumD_length]; exact hi⟩⟩
  obtain ⟨y, hy, rfl⟩ := enumD_get hi
  obtain ⟨v, hv, w⟩ := r2.getr hy
  refine ⟨⟨vs, v, h3, hv⟩, fun z H' q => .inr ?_⟩
  obtain ⟨T, z1, ez, hT, eH, hz⟩ := q
  have := hz vs h3
  rw [hv] at this
  cases this
  exact ⟨T, [.int i, v], _, hT, eH, ez, rfl, .cons (.int _) (.cons w .nil)⟩
theorem pil_enum {elts : List Expr} {kk : Nat} {tpos : Pos} (hg : Gl X "enumerate") (hm : X.mg "enumerate" = none) (ha : PAL X [e] t) (hs : starEach [e] X.env = [(false, eval e X.env)] := by rfl) :
    PIL X (.Tuple elts kk tpos) (.Call (.Name "enumerate" p) [e] [] pos) (lEnum t) := by
  refine ⟨fun pins s σ H Rr I ⟨m, ρ, S, x, er, hp, k⟩ => ?_⟩
  refine Call_ (ld_blt I hg hm boot_enumerate (PyProof.Rows.callWith_type1 (run_seqA ha I x er hp fun ds S1 q1 vs us s1 H1 m1 I1 rv e1 x1 w1 r1 hp1 => ?_) hs rfl))
  cases w1 with
  | nil => exact absurd rfl hp1.1
  | cons w w2 =>
    cases w2 with
    | cons _ _ => cases w <;> exact absurd rfl hp1.1
    | nil =>
      have fin : ∀ {a : Addr} {vs : List V} {xs : List D}, SqL X.K H1 a vs → us = [Value.ref a] → Ylds X.K (Ite X.K a) m1 H1 ⟨enumD xs, fun _ => True⟩ → lEnum t ρ S = .ok ⟨enumD xs, fun _ => True⟩ S1 → wpAny (model X.prog X.w) X.A (call (.type "enumerate") us) (fun itv s₂ => wpAny (model X.prog X.w) X.A (pyIter itv) (PIE X pins σ (.Tuple elts kk tpos) Rr) X.xe s₂) X.xe s1 := by
        intro a vs xs hq hu yl q2
        subst hu
        obtain ⟨its, rv', p', hz⟩ := I1.list hq
        refine call_enumerate_list p'.isList fun h' he hit hsz hk => wpAny_pyIter_enum he ?_
        have I2 : Inv X pins σ H1 { s1 with heap := h' } := I1.kept (t' := s1.toks) hk
        refine ⟨s1.heap.objs.size + 1, [s1.heap.objs.size + 1, s1.heap.objs.size], _, _, H1, rfl, I2, turn_enum a (s1.heap.objs.size + 1) s1.heap.objs.size, ⟨⟨.none, he⟩, hit, Nat.succ_ne_self _⟩, fun b hb => ?_, k _ S1 q2 _ H1 m1 e1 x1 yl⟩
        have e' : b = s1.heap.objs.size + 1 ∨ b = s1.heap.objs.size := by simpa using hb
        have hle : s1.heap.objs.size ≤ b := by
          rcases e' with z | z
          · rw [z]; exact Nat.le_add_right _ _
          · rw [z]; exact Nat.le_refl _
        exact I1.fpOk hle (I1.hok.fresh hle)
      cases w with
      | @lst a vs xs n h r =>
        refine fin (.inl h) ?_ (yl_enum x1.muts n h r) (by unfold lEnum; rw [q1]; rfl)
        cases rv with
        | cons r rr =>
          cases rr
          cases r
          rfl
      | @lstK a vs xs ob its n hk h1 h2 h3 h4 h5 r =>
        refine fin (a := a) (.inr ⟨ob, its, n, hk, h1, h2, h3, h4, h5⟩) ?_ (fun m2 H2 S2 Hx e x _ sup => ?_) (by unfold lEnum; rw [q1]; rfl)
        · cases rv with
          | cons r rr =>
            cases rr
            cases r
            rfl
        · have h3 : SqL X.K Hx a vs := .inr ⟨ob, its, n, hk, h1, h2, h3, h4, h5⟩
          have r2 := r.ext e x1.muts
          refine ⟨fun i d hi => ?_, fun i hi => ⟨vs, h3, by rw [r.length, ← enumD_length]; exact hi⟩⟩
          obtain ⟨y, hy, rfl⟩ := enumD_get hi
          obtain ⟨v, hv, w⟩ := r2.getr hy
          refine ⟨⟨vs, v, h3, hv⟩, fun z H' q => .inr ?_⟩
          obtain ⟨T, z1, ez, hT, eH, hz⟩ := q
          have := hz vs h3
          rw [hv] at this
          cases this
          exact ⟨T, [.int i, v], _, hT, eH, ez, rfl, .cons (.int _) (.cons w .nil)⟩
      | _ => exact absurd rfl hp1.1
end
end MP

namespace MP
open PySem PySem.Spec PyProof.Rows L2

/-! ### targets -/
abbrev GT := D → Ev → Option Ev
abbrev GTs := List D → Ev → Option Ev
def tGL (K : PySem.W.Frag) (ix : List Nat) (g : GT) : TG := fun v σ H Q => ∃ m Hr ρ d ρ', (∀ a xs, Hr a = some (.tup xs) → H a = some (.tup xs)) ∧ VR K m Hr v d ∧ ER K m Hr σ ρ ∧ ρ.length = σ.length ∧ g d ρ = some ρ' ∧
  ∀ σ', ER K m Hr σ' ρ' → ρ'.length = σ'.length → σ'.length = σ.length → (∀ j, j ∉ ix → σ'[j]? = σ[j]?) → Q σ' H
def tGLs (K : PySem.W.Frag) (ix : List Nat) (g : GTs) : TGs := fun vs σ H Q => ∃ m Hr ρ ds ρ', (∀ a xs, Hr a = some (.tup xs) → H a = some (.tup xs)) ∧ VRs K m Hr vs ds ∧ ER K m Hr σ ρ ∧ ρ.length = σ.length ∧ g ds ρ = some ρ' ∧
  ∀ σ', ER K m Hr σ' ρ' → ρ'.length = σ'.length → σ'.length = σ.length → (∀ j, j ∉ ix → σ'[j]? = σ[j]?) → Q σ' H
def PGL (X : Cx) (tg : Expr) (ix : List Nat) (g : GT) : Prop := PG X tg (tGL X.K ix g)
def PGsL (X : Cx) (tgs : List Expr) (ix : List Nat) (g : GTs) : Prop := PGs X tgs (tGLs X.K ix g)
theorem pg_imp {X : Cx} {tg : Expr} {t u : TG} (h : PG X tg t) (k : ∀ v σ H Q, u v σ H Q → t v σ H Q) : PG X tg u := ⟨fun pins s σ H v u' Q I r q => h.run pins s σ H v u' Q I r (k v σ H Q q)⟩
theorem pgs_imp {X : Cx} {tg : List Expr} {t u : TGs} (h : PGs X tg t) (k : ∀ v σ H Q, u v σ H Q → t v σ H Q) : PGs X tg u := ⟨fun pins s σ H v u' Q I r q => h.run pins s σ H v u' Q I r (k v σ H Q q)⟩
def gtName (i : Nat) : GT := fun d ρ => some (ρ.set i (some d))
def gtNil : GTs := fun ds ρ => match ds with
  | [] => some ρ
  | _ :: _ => none
def gtCons (g : GT) (gs : GTs) : GTs := fun ds ρ => match ds with
  | [] => none
  | d :: r => (g d ρ).bind fun ρ' => gs r ρ'
def gtTup (n : Nat) (gs : GTs) : GT := fun d ρ => match d with
  | .tup ds => if ds.length = n then gs ds ρ else none
  | _ => none
section
variable {X : Cx} {pos : Pos} {x : Str} {e : Expr} {es : List Expr}
theorem pgl_name {i : Nat} (hN : X.N.Nodup) (hi : X.N[i]? = some x := by rfl) (hx : Loc X.env.scope x := by first | exact .inl rfl | exact .inr rfl) (hf : X.fn x = true ∨ X.env.scope.names.lookup x = some .local := by first | exact .inl rfl | exact .inr rfl | assumption) : PGL X (.Name x pos) [i] (gtName i) :=
  pg_imp (pg_name hN hi hx hf) fun v σ H Q ⟨m, Hr, ρ, d, ρ', h1, h2, h3, h4, h5, k⟩ => by
    cases h5
    exact k _ (h3.set h2) (by simp [h4]) (by simp) fun j hj => by rw [List.getElem?_set_ne (fun z => hj (by simp [z]))]
theorem pgsl_nil : PGsL X [] [] gtNil := pgs_imp pgs_nil fun vs σ H Q ⟨m, Hr, ρ, ds, ρ', h1, h2, h3, h4, h5, k⟩ => by
  cases h2 with
  | nil => cases h5; exact ⟨rfl, k σ h3 h4 rfl fun _ _ => rfl⟩
  | cons _ _ => cases h5
theorem pgsl_cons {ix ix' : List Nat} {g : GT} {gs : GTs} (h1 : PGL X e ix g) (h2 : PGsL X es ix' gs) (hs : (assignEach (e :: es) X.env).map (·.2) = assign e X.env :: (assignEach es X.env).map (·.2) := by rfl) : PGsL X (e :: es) (ix ++ ix') (gtCons g gs) :=
  pgs_imp (pgs_cons h1 h2 hs) fun vs σ H Q ⟨m, Hr, ρ, ds, ρ', h1, h2, h3, h4, h5, k⟩ => by
    cases h2 with
    | nil => cases h5
    | @cons v d vs ds hv hr =>
      dsimp only [gtCons] at h5
      cases q : g d ρ with
      | none => rw [q] at h5; cases h5
      | some ρ1 =>
        rw [q] at h5
        exact ⟨v, vs, rfl, m, Hr, ρ, d, ρ1, h1, hv, h3, h4, q, fun σ1 e1 l1 l2 k1 => ⟨m, Hr, ρ1, ds, ρ', h1, hr, e1, l1, h5, fun σ2 e2 l3 l4 k2 => k σ2 e2 l3 (l4.trans l2) fun j hj => (k2 j fun z => hj (List.mem_append_right _ z)).trans (k1 j fun z => hj (List.mem_append_left _ z))⟩⟩
theorem pgl_tup {ix : List Nat} {gs : GTs} {n k : Nat} (hc : X.calm = true) (h : PGsL X es ix gs) (hn : (assignEach es X.env).length = n := by rfl) (hst : (assignEach es X.env).findIdx? (·.1) = none := by rfl) : PGL X (.Tuple es k pos) ix (gtTup n gs) :=
  pg_imp (pg_tup (n := n) hc h hn hst) fun v σ H Q ⟨m, Hr, ρ, d, ρ', h1, h2, h3, h4, h5, k⟩ => by
    cases h2 with
    | @tup a vs ds ha hr =>
      dsimp only [gtTup] at h5
      split at h5
      · rename_i hl
        exact ⟨a, vs, rfl, SqT.of (h1 _ _ ha), by rw [hr.length]; exact hl, m, Hr, ρ, ds, ρ', h1, hr, h3, h4, h5, k⟩
      · cases h5
    | _ => cases h5
end

/-! ### for -/
open Classical in
noncomputable def forG (ρ0 : Ev) (chk : Sto → Prop) (g : GT) (lb : LS) : List D → LS
  | [] => fun ρ S => if chk S then .ok (.nx ρ) S else .bad
  | d :: ds => fun ρ S => if chk S then (match g d ρ with
    | some ρ1 => (lb ρ1 S).bind (Fl.loop ρ0 (forG ρ0 chk g lb ds))
    | none => .bad) else .bad
noncomputable def lFor (li : LI) (g : GT) (lb : LS) : LS := fun ρ S => liftX ρ (li ρ S) fun it S1 => forG ρ it.chk g lb it.items ρ S1
theorem ys_vr {K : PySem.W.Frag} {m : List Addr} {H Hx H' : Hp} {x : V} {d : D} (mu : ∀ a ∈ m, Mut (H a)) (h : YS K m H H x H' d) : VR K m H' x d ∧ Ext m H m H' := by
  rcases h with ⟨rfl, h⟩ | ⟨T, ws, ds, hT, rfl, rfl, rfl, r⟩
  · exact ⟨h, Ext.refl⟩
  · exact ⟨.tup upd_same (r.ext (Ext.fresh hT) mu), Ext.fresh hT⟩
theorem psl_for {X : Cx} {tg iter : Expr} {body : List Stmt} {li : LI} {ix : List Nat} {g : GT} {lb : LS} {pos : Pos} (hp : PassesOwn (model X.prog X.w) X.A X.env X.xe) (hc : X.calm = true) (hi : PIL X tg iter li) (hg : PGL X tg ix g) (hb : PSsL X body lb)
    (hs : ∀ x, foldedSetIterable iter X.env x = pure x := by intro _; rfl) : PSL X (.For tg iter body [] pos) (lFor li g lb) := by
  refine ps_imp (ps_for hp hc hi hg hb hs) fun D σ H ⟨m0, ρ0, S0, x0, er0, hl0, h0⟩ => ?_
  have h0' : HS X D m0 H (liftX ρ0 (li ρ0 S0) fun it S1 => forG ρ0 it.chk g lb it.items ρ0 S1) := h0
  refine ⟨m0, ρ0, S0, x0, er0, HS.hope h0' er0 hl0 x0, fun it S1 q J H1 m1 e1 x1 yl => ?_⟩
  rw [q] at h0'
  have h1 : HS X D m1 H1 (forG ρ0 it.chk g lb it.items ρ0 S1) := HS.ext h0' e1
  refine ⟨fun i k σ H => k + i = it.items.length ∧ ∃ m ρ S, Ext m1 H1 m H ∧ SR X.K m H S ∧ ER X.K m H σ ρ ∧ ρ.length = σ.length ∧ HS X D m H (forG ρ0 it.chk g lb (it.items.drop i) ρ S), ⟨it.items.length, by simp, m1, ρ0, S1, Ext.refl, x1, er0.ext e1 x0.muts, hl0, by simpa using h1⟩, ?_⟩
  rintro i k σ H ⟨hk, m, ρ, S, e, x, er, hl, h⟩
  by_cases hi : i < it.items.length
  · have hd : it.items.drop i = it.items[i] :: it.items.drop (i + 1) := List.drop_eq_getElem_cons hi
    rw [hd] at h
    have hchk : it.chk S := by
      by_cases z : it.chk S
      · exact z
      · obtain ⟨fl, S', q⟩ := h.ok
        dsimp only [forG] at q
        rw [if_neg z] at q
        cases q
    dsimp only [forG] at h
    rw [if_pos hchk] at h
    cases hgd : g it.items[i] ρ with
    | none => rw [hgd] at h; obtain ⟨fl, S', q⟩ := h.ok; cases q
    | some ρ1 =>
      rw [hgd] at h
      dsimp only at h
      obtain ⟨y1, y2⟩ := yl m H S H e x hchk fun _ _ z => z
      obtain ⟨go, yy⟩ := y1 i it.items[i] (List.getElem?_eq_getElem hi)
      refine .inr ⟨go, fun σ' H' => ∃ m ρ S, Ext m1 H1 m H' ∧ SR X.K m H' S ∧ ER X.K m H' σ' ρ ∧ ρ.length = σ'.length ∧ HS X D m H' (forG ρ0 it.chk g lb (it.items.drop (i + 1)) ρ S), fun σ' H' z => ⟨k - 1, by omega, by omega, z⟩, fun v H' hy => ?_⟩
      obtain ⟨w, e2⟩ := ys_vr (Hx := H) x.muts (yy v H' hy)
      have x2 : SR X.K m H' S := by
        rcases yy v H' hy with ⟨rfl, _⟩ | ⟨T, ws, ds, hT, rfl, _⟩
        · exact x
        · exact x.fresh hT
      refine ⟨m, H', ρ, it.items[i], ρ1, fun _ _ z => z, w, er.ext e2 x.muts, hl, hgd, fun σ2 er2 hl2 _ _ => ⟨m, ρ1, S, x2, er2, hl2, ?_⟩⟩
      obtain ⟨fl, S', qok⟩ := (HS.ext h e2).ok
      obtain ⟨a, S3, qa, qb⟩ := bind_nbad qok
      -- the ways out, by the place where they lie
      have key : (lb ρ1 S).bind (Fl.loop ρ0 (forG ρ0 it.chk g lb (it.items.drop (i + 1)))) = Fl.loop ρ0 (forG ρ0 it.chk g lb (it.items.drop (i + 1))) a S3 := by rw [qa]; rfl
      have hA := HS.ext h e2
      rw [key] at hA
      refine ⟨⟨a, S3, qa⟩, fun ρ' S2 ee σ' H'' z => ?_, fun d S2 ee v H'' z => ?_, fun ρ' S2 ee σ' H'' z => ?_, fun ρ' S2 ee σ' H'' z => ?_, fun C fs ρ' S2 ee u s' z => ?_⟩
      · rw [qa] at ee
        cases ee
        obtain ⟨m', e', x', er', hl'⟩ := z.wk ρ0
        exact ⟨m', _, S3, (e.trans e2).trans e', x', er', hl', HS.ext hA e'⟩
      · rw [qa] at ee
        cases ee
        exact hA.rt d S3 rfl v H'' z
      · rw [qa] at ee
        cases ee
        exact hA.nx _ S3 rfl σ' H'' (z.wk ρ0)
      · rw [qa] at ee
        cases ee
        obtain ⟨m', e', x', er', hl'⟩ := z.wk ρ0
        exact ⟨m', _, S3, (e.trans e2).trans e', x', er', hl', HS.ext hA e'⟩
      · rw [qa] at ee
        cases ee
        exact hA.ex C fs ρ' S3 rfl u s' z
  · have hd : it.items.drop i = [] := List.drop_eq_nil_of_le (by omega)
    rw [hd] at h
    have hchk : it.chk S := by
      by_cases z : it.chk S
      · exact z
      · obtain ⟨fl, S', q⟩ := h.ok
        dsimp only [forG] at q
        rw [if_neg z] at q
        cases q
    dsimp only [forG] at h
    rw [if_pos hchk] at h
    obtain ⟨y1, y2⟩ := yl m H S H e x hchk fun _ _ z => z
    exact .inl ⟨y2 i (by omega), h.nx ρ S rfl σ H (sv_same x er hl)⟩
end MP

namespace MP
open PySem PySem.Spec PyProof.Rows L2

/-! ### a list that is being made is hidden -/
def hid (H : Hp) (p : Addr) : Hp := fun b => if b = p then none else H b
theorem hid_ne {H : Hp} {a p : Addr} (h : a ≠ p) : hid H p a = H a := if_neg h
theorem hid_same {H : Hp} {p : Addr} : hid H p p = none := if_pos rfl
section
variable {X : Cx} {pins : List (Addr × Obj)} {σ : L2.St} {H : Hp} {s : Shared} {p : Addr} {vs : List V}
theorem hide_inv (I : Inv X pins σ H s) (hD : H p = some (.lst vs)) : ∃ o, Inv X ((p, o) :: pins) σ (hid H p) s ∧ ∀ σ' s' H', Inv X ((p, o) :: pins) σ' H' s' → Inv X pins σ' (upd H' p (.lst vs)) s' ∧ H' p = none := by
  obtain ⟨hz, its, n, rv, ho⟩ : vs.length ≤ sizeLine ∧ ∃ (its : List Value) (n : Nat), Vals vs its ∧ s.heap.get? p = some { cls := .type "list", data := .seq its.toArray n } := I.hok p _ hD
  have ns : ∀ b o, X.s_0.heap.get? b = some o → X.H_0 b = none → b ∉ X.ex → b ≠ p := fun b o q n hx z => by
    have := I.base.free b o q n hx
    rw [z, hD] at this; cases this
  have nt : ∀ b u, H b = some u → (∀ xs, u ≠ .lst xs) → b ≠ p := fun b u q nl z => by
    rw [z, hD] at q
    cases q
    exact nl _ rfl
  have nloc : p ≠ X.env.locals := fun z => by
    have := I.free
    rw [← z, hD] at this; cases this
  have nfs : p ∉ X.fs := fun hb => by
    obtain ⟨_, o, ho', _⟩ := I.ok.funs.mem hb
    have := I.base.free p o ho' (I.ok.frf p hb) fun z => I.ok.exfs p z hb
    rw [hD] at this; cases this
  refine ⟨{ cls := .type "list", data := .seq its.toArray n }, ⟨I.ok, I.os, I.bare, ⟨I.base.keep, I.base.slot, fun b o q n hx => ?_, I.base.there, fun b xs q => ?_, fun b o u q => ?_, fun b ps q => ?_⟩, I.loc, I.cell, ?_, fun x c e => ?_, fun q hq => ?_, fun b u q => ?_, I.len⟩, fun σ' s' H' J => ?_⟩
  · rw [hid_ne (ns b o q n hx)]; exact I.base.free b o q n hx
  · rw [hid_ne (nt b _ (I.base.tups b xs q) fun _ z => nomatch z)]; exact I.base.tups b xs q
  · rw [hid_ne (nt b _ (I.base.frzs b o u q) fun _ z => nomatch z)]; exact I.base.frzs b o u q
  · obtain ⟨more, e⟩ := I.base.tbls b ps q
    exact ⟨more, by rw [hid_ne (nt b _ e fun _ z => nomatch z)]; exact e⟩
  · rw [hid_ne nloc.symm]; exact I.free
  · by_cases hc : c = p
    · rw [hc]; exact hid_same
    · rw [hid_ne hc]; exact I.freeC x c e
  · rcases List.mem_append.mp hq with z | z
    · obtain ⟨a1, a2, a3⟩ := I.pin q (List.mem_append_left _ z)
      refine ⟨a1, ?_, a3⟩
      by_cases hc : q.1 = p
      · rw [hc]; exact hid_same
      · rw [hid_ne hc]; exact a2
    · rcases List.mem_cons.mp z with z | z
      · subst z
        exact ⟨ho, hid_same, nloc, nfs, fun v z => nomatch z⟩
      · obtain ⟨a1, a2, a3⟩ := I.pin q (List.mem_append_right _ z)
        refine ⟨a1, ?_, a3⟩
        by_cases hc : q.1 = p
        · rw [hc]; exact hid_same
        · rw [hid_ne hc]; exact a2
  · have hb : b ≠ p := fun z => by rw [z, hid_same] at q; cases q
    rw [hid_ne hb] at q
    exact (I.hok b u q).stay (fun c v _ z => z) (fun c z => by rw [hid_ne (nt c _ z fun _ z => nomatch z)]; exact z) fun c xs z => by rw [hid_ne (nt c _ z fun _ z => nomatch z)]; exact z
  · obtain ⟨p1, p2, _⟩ := J.pin (p, _) (List.mem_append_right _ List.mem_cons_self)
    have n2 : ∀ b u, H' b = some u → b ≠ p := fun b u q z => by rw [z, p2] at q; cases q
    refine ⟨⟨J.ok, J.os, J.bare, ⟨J.base.keep, J.base.slot, fun b o q n hx => ?_, J.base.there, fun b xs q => ?_, fun b o u q => ?_, fun b ps q => ?_⟩, J.loc, J.cell, ?_, fun x c e => ?_, fun q hq => ?_, fun b u q => ?_, J.len⟩, p2⟩
    · rw [upd_ne (ns b o q n hx)]; exact J.base.free b o q n hx
    · rw [upd_ne (n2 b _ (J.base.tups b xs q))]; exact J.base.tups b xs q
    · rw [upd_ne (n2 b _ (J.base.frzs b o u q))]; exact J.base.frzs b o u q
    · obtain ⟨more, e⟩ := J.base.tbls b ps q
      exact ⟨more, by rw [upd_ne (n2 b _ e)]; exact e⟩
    · rw [upd_ne nloc.symm]; exact J.free
    · have : c ≠ p := fun z => by
        have := I.freeC x c e
        rw [z, hD] at this; cases this
      rw [upd_ne this]; exact J.freeC x c e
    · have hq' : q ∈ X.pn ++ (p, ({ cls := .type "list", data := .seq its.toArray n } : Obj)) :: pins := by
        rcases List.mem_append.mp hq with z | z
        · exact List.mem_append_left _ z
        · exact List.mem_append_right _ (List.mem_cons_of_mem _ z)
      obtain ⟨a1, a2, a3⟩ := J.pin q hq'
      refine ⟨a1, ?_, a3⟩
      have : q.1 ≠ p := fun z => by
        have := (I.pin q hq).2.1
        rw [z, hD] at this; cases this
      rw [upd_ne this]; exact a2
    · by_cases hb : b = p
      · subst hb
        rw [upd_same] at q
        cases q
        exact ⟨hz, its, n, rv, p1⟩
      · rw [upd_ne hb] at q
        exact (J.hok b u q).stay (fun c v _ z => z) (fun c z => by rw [upd_ne (n2 c _ z)]; exact z) fun c xs z => by rw [upd_ne (n2 c _ z)]; exact z
def tHide (t : TE) : TE := fun σ H Q => ∃ p vs, H p = some (.lst vs) ∧ t σ (hid H p) fun v H' => H' p = none → Q v (upd H' p (.lst vs))
def tHideT (t : TT) : TT := fun σ H Q => ∃ p vs, H p = some (.lst vs) ∧ t σ (hid H p) fun v H' => H' p = none → Q v (upd H' p (.lst vs))
theorem pe_hide {e : Expr} {t : TE} (h : PE X e t) : PE X e (tHide t) := by
  refine ⟨fun pins s σ H Q I ⟨p, vs, hp, q⟩ => ?_⟩
  obtain ⟨o, I1, back⟩ := hide_inv I hp
  exact thn (h.run _ s σ _ _ I1 q) fun u s' ⟨v, H', I', rv, q'⟩ => ⟨v, _, (back _ _ _ I').1, rv, q' (back _ _ _ I').2⟩
theorem pts_hide {es : List Expr} {t : TT} (h : PTs X es t) : PTs X es (tHideT t) := by
  refine ⟨fun pins s σ H Q I ⟨p, vs, hp, q⟩ => ?_⟩
  obtain ⟨o, I1, back⟩ := hide_inv I hp
  exact thn (h.run _ s σ _ _ I1 q) fun u s' ⟨H', I', q'⟩ => ⟨_, (back _ _ _ I').1, q' (back _ _ _ I').2⟩
end

/-! ### comprehensions -/
def noex {α : Type} (r : R α) : R α := match r with
  | .exc _ _ _ => .bad
  | r => r
def wipeE (ρ : Ev) : List Nat → Ev
  | [] => ρ
  | i :: r => (wipeE ρ r).set i none
open Classical in
noncomputable def compG (chk : Sto → Prop) (g : GT) (tt : LT) (te : LE) (ρ0 : Ev) : List D → Sto → R (List D)
  | [], S => if chk S then .ok [] S else .bad
  | d :: ds, S => if chk S then (match g d ρ0 with
    | some ρ1 => (noex (tt ρ1 S)).bind fun b S1 => if b = true then (noex (te ρ1 S1)).bind fun y S2 => (compG chk g tt te ρ0 ds S2).bind fun ys S3 => .ok (y :: ys) S3 else compG chk g tt te ρ0 ds S1
    | none => .bad) else .bad
noncomputable def compL (li : LI) (ix : List Nat) (g : GT) (tt : LT) (te : LE) : LA := fun ρ S => (li ρ S).bind fun it S1 => if it.items.length ≤ sizeLine then compG it.chk g tt te (wipeE ρ ix) it.items S1 else .bad
/-- the list as it is; a list of the store -/
noncomputable def lComp (li : LI) (ix : List Nat) (g : GT) (tt : LT) (te : LE) : LE := fun ρ S => (compL li ix g tt te ρ S).bind fun ys S2 => .ok (.lst ys) S2
noncomputable def lCompN (li : LI) (ix : List Nat) (g : GT) (tt : LT) (te : LE) : LE := fun ρ S => (compL li ix g tt te ρ S).bind fun ys S2 => .ok (.ref S2.length) (S2 ++ [.lst ys])
def tYesL : LT := fun _ S => .ok true S
theorem wipeE_some : ∀ {ix : List Nat} {ρ : Ev} {i : Nat} {d : D}, (wipeE ρ ix)[i]? = some (some d) → ρ[i]? = some (some d) ∧ i ∉ ix
  | [], _, _, _, h => ⟨h, by simp⟩
  | j :: r, ρ, i, d, h => by
    by_cases hj : j = i
    · subst hj
      simp only [wipeE] at h
      by_cases hl : j < (wipeE ρ r).length
      · rw [List.getElem?_set_self hl] at h; cases h
      · rw [List.getElem?_eq_none (by simp; omega)] at h; cases h
    · simp only [wipeE] at h
      rw [List.getElem?_set_ne hj] at h
      obtain ⟨a, b⟩ := wipeE_some h
      exact ⟨a, by simp [b]; exact fun z => hj z.symm⟩
theorem wipeE_length (ρ : Ev) : ∀ ix : List Nat, (wipeE ρ ix).length = ρ.length
  | [] => rfl
  | j :: r => by simp [wipeE, wipeE_length ρ r]
theorem ER.wipe {K : PySem.W.Frag} {m : List Addr} {H : Hp} {σ : L2.St} {ρ : Ev} (r : ER K m H σ ρ) (ix : List Nat) : ER K m H (L2.wipe σ ix) (wipeE ρ ix) := ⟨fun i d h => by
  obtain ⟨h1, h2⟩ := wipeE_some h
  obtain ⟨v, h3, h4⟩ := r.at_ i d h1
  exact ⟨v, by rw [wipe_out h2]; exact h3, h4⟩, by rw [wipeE_length, wipe_length]; exact r.len⟩
theorem wipe_eq {σ σ' : L2.St} {ix : List Nat} (hl : σ'.length = σ.length) (h : ∀ j, j ∉ ix → σ'[j]? = σ[j]?) : L2.wipe σ' ix = L2.wipe σ ix := by
  apply List.ext_getElem?
  intro i
  by_cases hi : i ∈ ix
  · have z : ∀ τ : L2.St, τ.length = σ.length → (L2.wipe τ ix)[i]? = if i < σ.length then some none else none := fun τ ht => by
      cases q : (L2.wipe τ ix)[i]? with
      | none =>
        rw [List.getElem?_eq_none_iff, wipe_length, ht] at q
        rw [if_neg (by omega)]
      | some o =>
        have h1 := (List.getElem?_eq_some_iff.mp q).1
        rw [wipe_length, ht] at h1
        rw [if_pos h1]
        cases o with
        | none => rfl
        | some v => exact absurd hi (wipe_some q).2
    rw [z σ' hl, z σ rfl]
  · rw [wipe_out hi, wipe_out hi]
    exact h i hi
end MP

namespace MP
open PySem PySem.Spec PyProof.Rows L2

section
variable {K : PySem.W.Frag} {m : List Addr} {H H' : Hp} {p : Addr} {o : HO} {S : Sto}
theorem hid_upd (h : H p = none) : hid (upd H p o) p = H := by
  funext b
  by_cases e : b = p
  · rw [e, hid_same, h]
  · rw [hid_ne e, upd_ne e]
theorem upd_hid (h : H p = some o) : upd (hid H p) p o = H := by
  funext b
  by_cases e : b = p
  · rw [e, upd_same, h]
  · rw [upd_ne e, hid_ne e]
theorem sup_hid : ∀ a o, hid H p a = some o → H a = some o := fun a o e => by
  have : a ≠ p := fun z => by rw [z, hid_same] at e; cases e
  rwa [hid_ne this] at e
end
/-- what lc_core asks, from the store's words -/
theorem comp_read {X : Cx} {li : LI} {ix : List Nat} {g : GT} {tt : LT} {te : LE} {σ : L2.St} {H : Hp} {m : List Addr} {ρ : Ev} {S : Sto} (x0 : SR X.K m H S) (er0 : ER X.K m H σ ρ) (hp : Hope X σ m H (compL li ix g tt te ρ S)) {Q : VK}
    (hQ : ∀ ys S2, compL li ix g tt te ρ S = .ok ys S2 → ∀ p vs m2 H2, Ext m H m2 H2 → SR X.K m2 H2 S2 → H2 p = none → VRs X.K m2 H2 vs ys → Q (.ref p) (upd H2 p (.lst vs))) :
    tLc (tIL X li) (tGL X.K ix g) (tHideT (tT0 X.K tt)) (tHide (tL0 X.K te)) ix σ H Q := by
  refine ⟨m, ρ, S, x0, er0, hope_seq hp, fun it S1 q1 J H1 m1 e1 x1 yl => ?_⟩
  unfold compL at hp hQ
  rw [q1, bind_ok] at hp hQ
  have hz := hope_if hp
  rw [if_pos hz] at hp hQ
  have er1 := (er0.ext e1 x0.muts).wipe ix
  intro D hD
  -- what holds ahead of turn i: so much is made, the rest gives the rest
  refine ⟨fun i k H => k + i = it.items.length ∧ ∃ (vs : List V) (acc : List MP.D) (m : List Addr) (S : Sto), H D = some (.lst vs) ∧ Ext m1 H1 m (hid H D) ∧ SR X.K m (hid H D) S ∧ VRs X.K m (hid H D) vs acc ∧ acc.length ≤ i ∧
      ∃ ys S2, compG it.chk g tt te (wipeE ρ ix) (it.items.drop i) S = .ok ys S2 ∧ compG it.chk g tt te (wipeE ρ ix) it.items S1 = .ok (acc ++ ys) S2, ⟨it.items.length, by simp, [], [], m1, S1, upd_same, ?_, ?_, .nil, Nat.zero_le _, ?_⟩, ?_⟩
  · rw [hid_upd hD]; exact Ext.refl
  · rw [hid_upd hD]; exact x1
  · cases q : compG it.chk g tt te (wipeE ρ ix) it.items S1 with
    | bad => rw [q] at hp; exact absurd rfl hp.1
    | ok ys S2 => exact ⟨ys, S2, by simpa using q, by simp⟩
    | exc C fs S2 =>
      exfalso
      have : ∀ (l : List MP.D) (S : Sto) C fs S2, compG it.chk g tt te (wipeE ρ ix) l S ≠ .exc C fs S2 := by
        intro l
        induction l with
        | nil =>
          intro S C fs S2 z
          dsimp only [compG] at z
          split at z <;> cases z
        | cons d ds ih =>
          intro S C fs S2 z
          dsimp only [compG] at z
          split at z
          · split at z
            · rename_i ρ1 _
              cases q : tt ρ1 S with
              | bad => rw [q] at z; cases z
              | exc _ _ _ => rw [q] at z; cases z
              | ok b S3 =>
                rw [q] at z
                dsimp only [noex, R.bind] at z
                split at z
                · cases q2 : te ρ1 S3 with
                  | bad => rw [q2] at z; cases z
                  | exc _ _ _ => rw [q2] at z; cases z
                  | ok y S4 =>
                    rw [q2] at z
                    dsimp only [noex, R.bind] at z
                    cases q3 : compG it.chk g tt te (wipeE ρ ix) ds S4 with
                    | bad => rw [q3] at z; cases z
                    | ok _ _ => rw [q3] at z; cases z
                    | exc C' fs' S' => exact ih _ _ _ _ q3
                · exact ih _ _ _ _ z
            · cases z
          · cases z
      exact this _ _ _ _ _ q
  · rintro i k H ⟨hk, vs, acc, m2, S2, hHD, e2, x2, r2, hacc, ys, S3, c1, c2⟩
    have er2 : ER X.K m2 (hid H D) (L2.wipe σ ix) (wipeE ρ ix) := er1.ext e2 x1.muts
    by_cases hi : i < it.items.length
    · have hd : it.items.drop i = it.items[i] :: it.items.drop (i + 1) := List.drop_eq_getElem_cons hi
      rw [hd] at c1
      dsimp only [compG] at c1
      split at c1
      · rename_i hchk
        obtain ⟨y1, _⟩ := yl m2 (hid H D) S2 H e2 x2 hchk sup_hid
        obtain ⟨go, yy⟩ := y1 i it.items[i] (List.getElem?_eq_getElem hi)
        split at c1
        · rename_i ρ1 hg1
          refine .inr ⟨go, fun H' => (k - 1) + (i + 1) = it.items.length ∧ ∃ (vs : List V) (acc : List MP.D) (m : List Addr) (S : Sto), H' D = some (.lst vs) ∧ Ext m1 H1 m (hid H' D) ∧ SR X.K m (hid H' D) S ∧ VRs X.K m (hid H' D) vs acc ∧ acc.length ≤ i + 1 ∧
            ∃ ys S2, compG it.chk g tt te (wipeE ρ ix) (it.items.drop (i + 1)) S = .ok ys S2 ∧ compG it.chk g tt te (wipeE ρ ix) it.items S1 = .ok (acc ++ ys) S2, fun H' z => ⟨k - 1, by omega, z⟩, fun v H' hy => ?_⟩
          -- the turn's heap, D hidden
          obtain ⟨w, e3, hD', x3, hall⟩ : VR X.K m2 (hid H' D) v it.items[i] ∧ Ext m2 (hid H D) m2 (hid H' D) ∧ H' D = some (.lst vs) ∧ SR X.K m2 (hid H' D) S2 ∧ ∀ a xs, hid H' D a = some (.tup xs) → H' a = some (.tup xs) := by
            rcases yy v H' hy with ⟨rfl, w⟩ | ⟨T, ws, ds, hT, rfl, rfl, ed, rw'⟩
            · exact ⟨w, Ext.refl, hHD, x2, fun a xs z => sup_hid a _ z⟩
            · have hTD : T ≠ D := fun z => by rw [z, hHD] at hT; cases hT
              have hTh : hid H D T = none := by rw [hid_ne hTD]; exact hT
              have eh : hid (upd H T (.tup ws)) D = upd (hid H D) T (.tup ws) := by
                funext b
                by_cases hb : b = D
                · rw [hb, hid_same, upd_ne hTD.symm, hid_same]
                · rw [hid_ne hb]
                  by_cases hb2 : b = T
                  · rw [hb2, upd_same, upd_same]
                  · rw [upd_ne hb2, upd_ne hb2, hid_ne hb]
              rw [eh]
              refine ⟨?_, Ext.fresh hTh, by rw [upd_ne hTD.symm]; exact hHD, x2.fresh hTh, fun a xs z => ?_⟩
              · rw [ed]
                exact .tup upd_same (rw'.ext (Ext.fresh hTh) x2.muts)
              · rw [← eh] at z
                exact sup_hid a _ z
          refine ⟨m2, hid H' D, wipeE ρ ix, it.items[i], ρ1, hall, w, er2.ext e3 x2.muts, (er2.len), hg1, fun σ2 er3 hl2 hl3 hj => ⟨wipe_eq hl3 (fun j hjx => ?_) |>.trans ?_, ?_⟩⟩
          · exact hj j hjx
          · -- wiped twice
            exact wipe_eq (wipe_length σ ix) fun j hj => wipe_out hj
          · refine ⟨D, vs, hD', m2, ρ1, S2, x3, er3, ?_⟩
            cases qt : tt ρ1 S2 with
            | bad => rw [qt] at c1; cases c1
            | exc _ _ _ => rw [qt] at c1; cases c1
            | ok b S4 =>
              rw [qt] at c1
              dsimp only [noex, R.bind] at c1
              refine ⟨b, S4, rfl, fun H4 m4 e4 x4 hn4 => ?_⟩
              have r4 := (r2.ext e3 x2.muts).ext e4 x3.muts
              cases b with
              | true =>
                rw [if_pos rfl] at c1
                refine iteT ?_
                refine ⟨D, vs, upd_same, m4, ρ1, S4, by rw [hid_upd hn4]; exact x4, by rw [hid_upd hn4]; exact er3.ext e4 x3.muts, ?_⟩
                cases qe : te ρ1 S4 with
                | bad => rw [qe] at c1; cases c1
                | exc _ _ _ => rw [qe] at c1; cases c1
                | ok y S5 =>
                  rw [qe] at c1
                  dsimp only [noex, R.bind] at c1
                  refine ⟨y, S5, rfl, fun v5 H5 qv5 hn5 => ?_⟩
                  rw [hid_upd hn4] at qv5
                  obtain ⟨m5, e5, x5, w5⟩ := qv5
                  have r5 := r4.ext e5 x4.muts
                  refine ⟨vs, upd_same, ?_, by omega, vs ++ [v5], acc ++ [y], m5, S5, upd_same, ?_, ?_, ?_, by simp; omega, ?_⟩
                  · rw [r5.length]
                    exact Nat.lt_of_le_of_lt hacc (Nat.lt_of_lt_of_le hi hz)
                  · rw [upd_upd, hid_upd hn5]; exact ((e2.trans e3).trans e4).trans e5
                  · rw [upd_upd, hid_upd hn5]; exact x5
                  · rw [upd_upd, hid_upd hn5]; exact r5.append (.cons w5 .nil)
                  · cases qr : compG it.chk g tt te (wipeE ρ ix) (it.items.drop (i + 1)) S5 with
                    | bad => rw [qr] at c1; cases c1
                    | exc _ _ _ => rw [qr] at c1; cases c1
                    | ok zs S6 =>
                      rw [qr] at c1
                      cases c1
                      exact ⟨zs, _, rfl, by rw [c2]; simp⟩
              | false =>
                rw [if_neg Bool.false_ne_true] at c1
                refine iteF ?_
                exact ⟨by omega, vs, acc, m4, S4, upd_same, by rw [hid_upd hn4]; exact (e2.trans e3).trans e4, by rw [hid_upd hn4]; exact x4, by rw [hid_upd hn4]; exact r4, by omega, ys, S3, c1, c2⟩
        · cases c1
      · cases c1
    · have hd : it.items.drop i = [] := List.drop_eq_nil_of_le (by omega)
      rw [hd] at c1
      dsimp only [compG] at c1
      split at c1
      · rename_i hchk
        cases c1
        obtain ⟨_, y2⟩ := yl m2 (hid H D) S2 H e2 x2 hchk sup_hid
        refine .inl ⟨y2 i (by omega), ?_⟩
        have := hQ _ _ c2 D vs m2 (hid H D) (e1.trans e2) x2 hid_same (by simpa using r2)
        rw [upd_hid hHD] at this
        exact this
      · cases c1
section
variable {X : Cx} {elt tg iter : Expr} {ifs : List Expr} {scope : Scope} {own : List (Str × Nat)} {pos : Pos} {li : LI} {g : GT} {tt : LT} {te : LE}
/-- the tests of a comprehension -/
structure PTsL (X : Cx) (ifs : List Expr) (l : LT) : Prop where
  pts : PTs X ifs (tT0 X.K l)
theorem ptsl_nil : PTsL X [] tYesL := ⟨⟨fun pins s σ H Q I ⟨m, ρ, S, x, er, b, S', q, k⟩ => by
  cases q
  exact wpAny_tests_nil ⟨H, I, k H m Ext.refl x⟩⟩⟩
theorem ptsl_one {c : Expr} {t : LT} (h : PTL X c t) : PTsL X [c] t := ⟨pts_one h.pt⟩
theorem pel_lc (hc : X.calm = true) (hN : X.N.Nodup) (hi : PIL X tg iter li) (ok : BlkOk X.N X.env.scope scope own)
    (hg : ∀ (s : Shared) (H : Hp) (C : Addr) (cl : List (Str × Addr)) (fp : List Addr), PGL (X.blk s H scope (compEnvC scope cl C X.env) fp) tg (own.map (·.2)) g) (ht : ∀ (s : Shared) (H : Hp) (C : Addr) (cl : List (Str × Addr)) (fp : List Addr), PTsL (X.blk s H scope (compEnvC scope cl C X.env) fp) ifs tt)
    (he : ∀ (s : Shared) (H : Hp) (C : Addr) (cl : List (Str × Addr)) (fp : List Addr), PEL (X.blk s H scope (compEnvC scope cl C X.env) fp) elt te) (hs : ∀ x, foldedSetIterable iter X.env x = pure x := by intro _; rfl) :
    PEL X (.ListComp elt [⟨tg, iter, ifs, 0⟩] scope pos) (lComp li (own.map (·.2)) g tt te) :=
  .of_pe (pe_lc (g := tGL X.K (own.map fun q : Str × Nat => q.2) g) (tt := tHideT (tT0 X.K tt)) (te := tHide (tL0 X.K te)) hc hN hi ok hg (fun s H C cl fp => pts_hide (ht s H C cl fp).pts) (fun s H C cl fp => pe_hide (he s H C cl fp).pe) hs) fun σ H m ρ S x er hp =>
    comp_read x er (hope_seq hp) fun ys S2 q p vs m2 H2 e x2 hn r => ⟨.lst ys, S2, by unfold lComp; rw [q]; rfl, m2, e.trans (Ext.fresh hn), x2.fresh hn, vr_newLst x2 hn r⟩
/-- name = [..], the name a local -/
theorem psl_setLc {i : Nat} {y : Str} {py spos : Pos} {lv : LE} (hN : X.N.Nodup) (hyl : X.env.scope.names.lookup y = some .local) (hsw : swapsWith (.ListComp elt [⟨tg, iter, ifs, 0⟩] scope pos) (some (.Name y py)) spos.line X.env = pure true) (hc : X.calm = true) (hi : PIL X tg iter li) (ok : BlkOk X.N X.env.scope scope own)
    (hlv : lv = lComp li (own.map (·.2)) g tt te ∨ lv = lCompN li (own.map (·.2)) g tt te)
    (hg : ∀ (s : Shared) (H : Hp) (C : Addr) (cl : List (Str × Addr)) (fp : List Addr), PGL (X.blk s H scope (compEnvC scope cl C X.env) fp) tg (own.map (·.2)) g) (ht : ∀ (s : Shared) (H : Hp) (C : Addr) (cl : List (Str × Addr)) (fp : List Addr), PTsL (X.blk s H scope (compEnvC scope cl C X.env) fp) ifs tt)
    (he : ∀ (s : Shared) (H : Hp) (C : Addr) (cl : List (Str × Addr)) (fp : List Addr), PEL (X.blk s H scope (compEnvC scope cl C X.env) fp) elt te) (hy : X.N[i]? = some y := by rfl) (hs : ∀ x, foldedSetIterable iter X.env x = pure x := by intro _; rfl) :
    PSL X (.Assign [.Name y py] (.ListComp elt [⟨tg, iter, ifs, 0⟩] scope pos) spos) (lSet i lv) := by
  refine ps_imp (ps_setLc (g := tGL X.K (own.map fun q : Str × Nat => q.2) g) (tt := tHideT (tT0 X.K tt)) (te := tHide (tL0 X.K te)) hc hN hy hyl hsw hi ok hg (fun s H C cl fp => pts_hide (ht s H C cl fp).pts) (fun s H C cl fp => pe_hide (he s H C cl fp).pe) hs) fun D σ H ⟨m, ρ, S, x, er, hl, h⟩ => ?_
  have h' : HS X D m H (liftX ρ (lv ρ S) fun d S1 => .ok (.nx (ρ.set i (some d))) S1) := h
  have hp := HS.hope h' er hl x
  have hpc : Hope X σ m H (compL li (own.map (·.2)) g tt te ρ S) := by
    rcases hlv with z | z <;> (rw [z] at hp; exact hope_seq hp)
  refine comp_read x er hpc fun ys S2 q p vs m2 H2 e x2 hn r => ?_
  rcases hlv with z | z
  · have q' : lv ρ S = .ok (.lst ys) S2 := by rw [z]; unfold lComp; rw [q]; rfl
    rw [q'] at h'
    have e' := e.trans (Ext.fresh (o := .lst vs) hn)
    exact h'.nx _ _ rfl _ _ ⟨m2, e', x2.fresh hn, (er.ext e' x.muts).set (vr_newLst x2 hn r), by simp [hl]⟩
  · have q' : lv ρ S = .ok (.ref S2.length) (S2 ++ [.lst ys]) := by rw [z]; unfold lCompN; rw [q]; rfl
    rw [q'] at h'
    obtain ⟨m3, e3, x3, w3⟩ := qv_newL x2 hn r
    have e' := e.trans e3
    exact h'.nx _ _ rfl _ _ ⟨m3, e', x3, (er.ext e' x.muts).set w3, by simp [hl]⟩
end
end MP

namespace MP
open PySem PySem.Spec PyProof.Rows L2

section
variable {K : PySem.W.Frag} {m : List Addr} {H : Hp} {S : Sto}
theorem SR.write (x : SR K m H S) {i : Nat} {a : Addr} {o' : HO} {ob' : O} (hi : m[i]? = some a) (r : Ext m H m (upd H a o') → OR K m (upd H a o') a ob') : Ext m H m (upd H a o') ∧ SR K m (upd H a o') (S.set i ob') := by
  have hm : a ∈ m := List.mem_iff_getElem?.mpr ⟨i, hi⟩
  have e : Ext m H m (upd H a o') := ⟨⟨[], by simp⟩, fun b h => .inl h, fun b u n q => by rw [upd_ne (fun z : b = a => n (by rw [z]; exact hm))]; exact q⟩
  refine ⟨e, x.nd, by simp [x.len], fun j b u h1 h2 => ?_⟩
  by_cases hj : i = j
  · subst hj
    rw [hi] at h1
    cases h1
    have hl : i < S.length := x.len ▸ (List.getElem?_eq_some_iff.mp hi).1
    rw [List.getElem?_set_self hl] at h2
    cases h2
    exact r e
  · rw [List.getElem?_set_ne hj] at h2
    exact (x.at_ j b u h1 h2).ext e x.muts (upd_ne fun z => hj (nodup_get x.nd hi (z ▸ h1)))
theorem VR.ref_at (x : SR K m H S) {v : V} {i : Nat} {ob : O} (r : VR K m H v (.ref i)) (q : S[i]? = some ob) : ∃ a, v = .ref a ∧ m[i]? = some a ∧ OR K m H a ob := by
  cases r with
  | @ref i a h => exact ⟨a, rfl, h, x.at_ i a ob h q⟩
end
def putD (f : Str) (v : D) : List (Str × D) → List (Str × D)
  | [] => [(f, v)]
  | (g, x) :: r => if g = f then (g, v) :: r else (g, x) :: putD f v r
theorem VFs.put {K : PySem.W.Frag} {m : List Addr} {H : Hp} {f : Str} {v : V} {d : D} (h : VR K m H v d) : ∀ {fs : List (Str × V)} {gs : List (Str × D)}, VFs K m H fs gs → VFs K m H (putF f v fs) (putD f d gs)
  | _, _, .nil => .cons h .nil
  | _, _, @VFs.cons _ _ _ g w e vs ds q r => by
    unfold putF putD
    by_cases z : g = f
    · rw [if_pos z, if_pos z]; exact .cons h r
    · rw [if_neg z, if_neg z]; exact .cons q (VFs.put h r)
theorem VFs.length {K : PySem.W.Frag} {m : List Addr} {H : Hp} {fs : List (Str × V)} {gs : List (Str × D)} : VFs K m H fs gs → fs.length = gs.length
  | .nil => rfl
  | .cons _ r => by simp [r.length]
section
variable {X : Cx} {e o i c : Expr} {le lo li : LE} {t : LA} {pos pos' : Pos} {x y f : Str} {C : Addr}
/-- targets = e -/
def lAsg (g : GT) (le : LE) : LS := fun ρ S => liftX ρ (le ρ S) fun d S1 => match g d ρ with
  | some ρ1 => .ok (.nx ρ1) S1
  | none => .bad
theorem psl_asg {tg : Expr} {ix : List Nat} {g : GT} (he : PEL X e le) (hg : PGL X tg ix g) (hs : swapsWithSole [tg] e pos.line X.env = pure false := by rfl) (hw : swappedStores [tg] e X.env = pure none := by rfl)
    (h1 : (assignEach [tg] X.env).map (·.2) = [assign tg X.env] := by rfl) : PSL X (.Assign [tg] e pos) (lAsg g le) := by
  refine ⟨fun pins s σ H D I ⟨m, ρ, S, x, er, hl, h⟩ => ?_⟩
  refine wpAny_Assign_stores (expr_in he I x er hl h fun d S1 q v u s1 H1 m1 I1 rv e1 x1 w er1 h2 => ?_) hs hw
  rw [h1]
  cases hgd : g d ρ with
  | none => rw [hgd] at h2; obtain ⟨fl, S', q⟩ := h2.ok; cases q
  | some ρ1 =>
    rw [hgd] at h2
    exact thn (hg.run pins s1 σ H1 v u (fun σ' H' => D.nx σ' H') I1 rv ⟨m1, H1, ρ, d, ρ1, fun _ _ z => z, w, er1, hl, hgd, fun σ' er' hl' _ _ => h2.nx ρ1 S1 rfl σ' H1 (sv_same x1 er' hl')⟩) fun _ s2 q => q
/-- a, b = e1, e2 with plain local names -/
def tAX (X : Cx) (t : LA) : TA := fun σ H Q => ∃ m ρ S, SR X.K m H S ∧ ER X.K m H σ ρ ∧ Hope X σ m H (t ρ S) ∧ ∀ ds S', t ρ S = .ok ds S' → ∀ vs H' m', Ext m H m' H' → SR X.K m' H' S' → VRs X.K m' H' vs ds → Q vs H'
theorem PAL.pa {es : List Expr} (h : PAL X es t) : PA X es (tAX X t) := ⟨fun pos pins s σ H Q I ⟨m, ρ, S, x, er, hp, k⟩ =>
  thn (h.run pos pins s σ H m ρ S I x er hp) fun us s' ⟨ds, S', vs, H', m', q, I', rv, e', x', w⟩ => ⟨vs, H', I', rv, k ds S' q vs H' m' e' x' w⟩⟩
def lPar (i j : Nat) (t : LA) : LS := fun ρ S => liftX ρ (t ρ S) fun ds S1 => match ds with
  | [a, b] => .ok (.nx ((ρ.set i (some a)).set j (some b))) S1
  | _ => .bad
/-- o.f = e, o an object of the store -/
def stFld (C : Addr) (f : Str) (S : Sto) (r d : D) : Option Sto := match r with
  | .ref i => match S[i]? with
    | some (.ins C' fs) => if C' = C ∧ fs.length < 1000 then some (S.set i (.ins C (putD f d fs))) else none
    | _ => none
  | _ => none
def liftS (o : Option Sto) (ρ : Ev) : R Fl := match o with
  | some S => .ok (.nx ρ) S
  | none => .bad
def lStF (C : Addr) (f : Str) (lo le : LE) : LS := fun ρ S => liftX ρ (le ρ S) fun d S1 => liftX ρ (lo ρ S1) fun r S2 => liftS (stFld C f S2 r d) ρ
theorem psl_fld (cl : Cls X.K C) (na : NoAttr X.K C f) (ho : PEL X o lo) (he : PEL X e le) (hs : swapsWith e (some (.Attribute o f pos')) pos.line X.env = pure false := by rfl) : PSL X (.Assign [.Attribute o f pos'] e pos) (lStF C f lo le) := by
  refine ⟨fun pins s σ H D I ⟨m, ρ, S, x, er, hl, h⟩ => ?_⟩
  refine plainObj_wpAny_Assign_Attribute (expr_in he I x er hl h fun d S1 q v u s1 H1 m1 I1 rv e1 x1 w er1 h1 => expr_in ho I1 x1 er1 hl h1 fun r S2 q2 v2 u2 s2 H2 m2 I2 rv2 e2 x2 w2 er2 h2 => ?_) hs
  cases q3 : stFld C f S2 r d with
  | none => rw [q3] at h2; obtain ⟨fl, S', q⟩ := h2.ok; cases q
  | some S3 =>
    rw [q3] at h2
    unfold stFld at q3
    split at q3
    · rename_i i
      split at q3
      · rename_i C' fs q4
        split at q3
        · rename_i hz
          obtain ⟨hC, hz⟩ := hz
          subst hC
          cases q3
          obtain ⟨a, rfl, ha, orr⟩ := VR.ref_at x2 w2 q4
          obtain rfl : u2 = Value.ref a := rv2
          cases orr with
          | @ins _ dx fs' gs hh rr =>
            refine setattr_ok I2 hh cl na (by rw [rr.length]; exact hz) rv fun s3 I3 => ?_
            obtain ⟨e3, x3⟩ := x2.write (o' := .ins C' dx (putF f v fs')) (ob' := .ins C' (putD f d fs)) ha fun e => .ins upd_same ((rr.put (w.ext e2 x1.muts)).ext e x2.muts)
            exact ⟨σ, _, I3, h2.nx ρ _ rfl σ _ ⟨m2, e3, x3, er2.ext e3 x2.muts, hl⟩⟩
        · cases q3
      · cases q3
    · cases q3
/-- o[i] = e -/
structure PSetL (X : Cx) (g : Sto → D → D → D → Option Sto) : Prop where
  run : ∀ (pins : List (Addr × Obj)) (s : Shared) (σ : L2.St) (H : Hp) (m : List Addr) (S S' : Sto) (o i v : V) (d1 d2 d3 : D) (ov iv u : Value), Inv X pins σ H s → SR X.K m H S → VR X.K m H o d1 → VR X.K m H i d2 → VR X.K m H v d3 → RelV o ov → RelV i iv → RelV v u → g S d1 d2 d3 = some S' →
    wpAny (model X.prog X.w) X.A (setItem ov iv u) (fun _ s' => ∃ H' m', Inv X pins σ H' s' ∧ Ext m H m' H' ∧ SR X.K m' H' S') X.xe s
def stSeq (S : Sto) (r i d : D) : Option Sto := match r, i with
  | .ref j, .int k => match S[j]? with
    | some (.lst xs) => (ixN xs.length k).map fun n => S.set j (.lst (xs.set n d))
    | _ => none
  | _, _ => none
theorem psetl_seq : PSetL X stSeq := ⟨fun pins s σ H m S S' o i v d1 d2 d3 ov iv u I x r1 r2 r3 e1 e2 e3 q => by
  unfold stSeq at q
  split at q
  · rename_i j k
    split at q
    · rename_i xs q1
      cases q2 : ixN xs.length k with
      | none => rw [q2] at q; cases q
      | some n =>
        rw [q2] at q
        cases q
        obtain ⟨a, rfl, ha, orr⟩ := VR.ref_at x r1 q1
        cases r2
        cases orr with
        | @lst vs _ hh rr =>
          obtain ⟨z1, z2⟩ := x.write (o' := .lst (vs.set n v)) (ob' := .lst (xs.set n d3)) ha fun e => .lst upd_same ((rr.set r3 n).ext e x.muts)
          exact thn (set_list pins s σ H _ _ v ov iv u (fun H' => H' = upd H a (.lst (vs.set n v))) I e1 e2 e3 ⟨a, vs, k, n, rfl, rfl, hh, by rw [rr.length]; exact q2, rfl⟩) fun _ s' ⟨H', I', eH⟩ => by
            subst eH
            exact ⟨_, m, I', z1, z2⟩
    · cases q
  · cases q⟩
def lStS (g : Sto → D → D → D → Option Sto) (lo li le : LE) : LS := fun ρ S => liftX ρ (le ρ S) fun d S1 => liftX ρ (lo ρ S1) fun r S2 => liftX ρ (li ρ S2) fun k S3 => liftS (g S3 r k d) ρ
theorem psl_sub {g : Sto → D → D → D → Option Sto} (hg : PSetL X g) (ho : PEL X o lo) (hi : PEL X i li) (he : PEL X e le) (hs : swapsWith e (some (.Subscript o i pos')) pos.line X.env = pure false := by rfl) : PSL X (.Assign [.Subscript o i pos'] e pos) (lStS g lo li le) := by
  refine ⟨fun pins s σ H D I ⟨m, ρ, S, x, er, hl, h⟩ => ?_⟩
  refine wpAny_Assign_Subscript (expr_in he I x er hl h fun d S1 q v u s1 H1 m1 I1 rv e1 x1 w er1 h1 => expr_in ho I1 x1 er1 hl h1 fun r S2 q2 v2 u2 s2 H2 m2 I2 rv2 e2 x2 w2 er2 h2 => expr_in hi I2 x2 er2 hl h2 fun k S3 q3 v3 u3 s3 H3 m3 I3 rv3 e3 x3 w3 er3 h3 => ?_) hs
  cases q4 : g S3 r k d with
  | none => rw [q4] at h3; obtain ⟨fl, S', q⟩ := h3.ok; cases q
  | some S4 =>
    rw [q4] at h3
    exact thn (hg.run pins s3 σ H3 m3 S3 S4 v2 v3 v r k d u2 u3 u I3 x3 (w2.ext e3 x2.muts) w3 ((w.ext e2 x1.muts).ext e3 x2.muts) rv2 rv3 rv q4) fun _ s4 ⟨H4, m4, I4, e4, x4⟩ => ⟨σ, H4, I4, h3.nx ρ S4 rfl σ H4 ⟨m4, e4, x4, er3.ext e4 x3.muts, hl⟩⟩
/-- name op= e -/
def lAug (i : Nat) (g : G2) (le : LE) : LS := fun ρ S => match ρ[i]? with
  | some (some d0) => liftX ρ (le ρ S) fun d S1 => match g S1 d0 d with
    | some r => .ok (.nx (ρ.set i (some r))) S1
    | none => .bad
  | _ => .bad
end

/-! ### a def keeps its promise -/
def fin : R Fl → R D
  | .ok (.nx _) S => .ok .non S
  | .ok (.rt d) S => .ok d S
  | .ok (.ex C fs _) S => .exc C fs S
  | _ => .bad
def bodyF (n : Nat) (lb : LS) : F := fun ds S => fin (lb (ds.map some ++ List.replicate (n - ds.length) none) S)
theorem er_start {K : PySem.W.Frag} {m : List Addr} {H : Hp} {vs : List V} {ds : List D} {n : Nat} (r : VRs K m H vs ds) : ER K m H (vs.map some ++ List.replicate (n - vs.length) none) (ds.map some ++ List.replicate (n - ds.length) none) := by
  refine ⟨fun i d h => ?_, by simp [r.length]⟩
  have hi : i < ds.length := by
    by_cases z : i < ds.length
    · exact z
    · rw [List.getElem?_append_right (by simp; omega)] at h
      obtain ⟨_, h2⟩ := List.getElem?_eq_some_iff.mp h
      simp at h2
  rw [List.getElem?_append_left (by simpa using hi), List.getElem?_map] at h
  cases q : ds[i]? with
  | none => rw [q] at h; cases h
  | some d' =>
    rw [q] at h
    cases h
    obtain ⟨v, h1, h2⟩ := r.getr q
    refine ⟨v, ?_, h2⟩
    rw [List.getElem?_append_left (by rw [List.length_map, r.length]; exact hi), List.getElem?_map, h1]
    rfl
/-- as L2.fn_of, with the guards -/
theorem fnG_of {CX : CXT} {P : Program} {w : World} {K : PySem.W.Frag} {mg : Str → Option Value} {base : Heap} {k : Nat} {f : Addr} {name qual : Str} {params : Arguments} {body : List Stmt} {scope : Scope} {dV kV doc pm cdv ct oc : Value} {an od : Option Addr}
    {osl : Array (Option Value)} {N ps : List Str} {sp : Sp} (lk : K.lookup f = some ⟨oc, od, .func (PySem.W.fnOf name qual params body scope dV kV doc pm an cdv ct), osl⟩) (hcd : PySem.W.codeIn K cdv qual = true) (S : FnScope N ps scope)
    (len : ∀ vs H Q E, sp vs H Q E → vs.length = ps.length)
    (hbody : ∀ (A : Around) (outer : List Env) (s : Shared) (H : Hp) (vs : List V) (Q : VK) (E : XK), MP.Room k (A.deeper (envOfC qual scope s.heap.objs.size f cdv)) → sp vs H Q E →
      ∃ t, PSs (cxOf CX P w K mg base N qual scope f cdv A outer s H E) body t ∧ t { nx := fun _ H' => Q .non H', rt := Q } (start N vs) H) :
    MP.FnOk P w K mg base CX (k + 1) f (PySem.W.fnOf name qual params body scope dV kV doc pm an cdv ct) ps sp := by
  refine ⟨len, fun A outer s H args us vs Q E hr e0 hb r hsp => ?_⟩
  have hl := len _ _ _ _ hsp
  have KX : K.In s.heap := e0.mod.kin.keeps fun b o e => (e0.bs b o e).1
  have lim : s.heap.NoLimit := e0.mod.nolimit.keeps fun b o e => (e0.bs b o e).1
  have hkind : ∀ y ∈ ps.zip us, scope.names.lookup y.1 = some .local ∨ (scope.names.lookup y.1 = some .cell ∧ ((cellsFrom (s.heap.objs.size + 1) scope.names []).lookup y.1).isSome = true) := fun ⟨n, v⟩ hy => by
    rcases S.par n (List.of_mem_zip hy).1 with q | q
    · exact .inl q
    · exact .inr ⟨q, PySem.W.cellsFrom_some _ _ _ (.inl q)⟩
  refine codeAny_call_function hr.depth (KX _ _ lk) rfl S.co S.gen rfl (PySem.W.codeRec_of KX hcd) (hb _ _ _ _ ?_)
  refine wpAny_newFunctionEnv_cells S.kind hkind fun env he s1 x => ?_
  subst he
  refine ⟨lim.keeps x.toInCall.keep, codeAny_func ?_⟩
  obtain ⟨t, ht, hq⟩ := hbody A outer s H vs Q E (hr.deeper _) hsp
  have I : Inv (cxOf CX P w K mg base N qual scope f cdv A outer s H E) [] (start N vs) H s1 := inv_start S hr.hd e0 hl r x
  refine wpAny_mono (ht.run [] s1 (start N vs) H _ I hq) (fun fl s' hs => ?_) fun e s' hs => hs
  have fin : ∀ {σ' : L2.St} {H' : Hp} {v : V} {u : Value}, Inv (cxOf CX P w K mg base N qual scope f cdv A outer s H E) [] σ' H' s' → RelV v u → Q v H' → CE outer P w H s Q u s' :=
    fun {σ' H' v u} J rv q => ⟨v, H', J.os, J.bare, J.base, J.hok, rv, q⟩
  cases fl with
  | ret u =>
    obtain ⟨v, σ', H', J, rv, q⟩ := hs
    exact fin J rv q
  | next =>
    obtain ⟨σ', H', J, q⟩ := hs
    exact fin (v := V.non) (u := Value.none) J rfl q
  | brk =>
    obtain ⟨_, _, _, q⟩ := hs
    exact False.elim q
  | cont =>
    obtain ⟨_, _, _, q⟩ := hs
    exact False.elim q
section
variable {P : Program} {w : World} {K : PySem.W.Frag} {mg : Str → Option Value} {base : Heap}
theorem Fun.okG {x qual : Str} {st : Stmt} {f : Addr} {fd : FuncData} {N ps : List Str} {k : Nat} {sp : Sp} (F : Fun K x qual st f fd) (S : FnScope N ps (defScope st)) (len : ∀ vs H Q E, sp vs H Q E → vs.length = ps.length)
    (hbody : ∀ (cdv : Value) (A : Around) (outer : List Env) (s : Shared) (H : Hp) (vs : List V) (Q : VK) (E : XK), MP.Room k (A.deeper (envOfC qual (defScope st) s.heap.objs.size f cdv)) → sp vs H Q E →
      ∃ t, PSs (cxOf (L2.CX P w) P w K mg base N qual (defScope st) f cdv A outer s H E) (defBody st) t ∧ t { nx := fun _ H' => Q .non H', rt := Q } (L2.start N vs) H) : MP.FnOk P w K mg base (L2.CX P w) (k + 1) f fd ps sp := by
  obtain ⟨oc, od, kV, doc, pm, an, cdv, ct, osl, rfl, lk, hcd⟩ := F.ex
  exact fnG_of lk hcd S len fun A outer s H vs Q E hr hsp => hbody cdv A outer s H vs Q E hr hsp
abbrev cxL (P : Program) (w : World) (K : PySem.W.Frag) (mg : Str → Option Value) (base : Heap) (N : List Str) (qual : Str) (sc : Scope) (f : Addr) (cdv : Value) (A : Around) (outer : List Env) (s : Shared) (H : Hp) (E : XK) : Cx := cxOf (L2.CX P w) P w K mg base N qual sc f cdv A outer s H E
theorem Fun.okL {x qual : Str} {st : Stmt} {f : Addr} {fd : FuncData} {N ps : List Str} {k : Nat} {lb : LS} (Fn : Fun K x qual st f fd) (S : FnScope N ps (defScope st))
    (hb : ∀ (cdv : Value) (A : Around) (outer : List Env) (s : Shared) (H : Hp) (E : XK), Room k (A.deeper (envOfC qual (defScope st) s.heap.objs.size f cdv)) → PSsL (cxL P w K mg base N qual (defScope st) f cdv A outer s H E) (defBody st) lb) :
    FnL P w K mg base (k + 1) f fd ps (bodyF N.length lb) := by
  refine Fun.okG Fn S (fun vs H Q E h => h.1) fun cdv A outer s H vs Q E hr h => ⟨_, hb cdv A outer s H E hr, ?_⟩
  obtain ⟨hl, m, S0, ds, x0, r, nb, q1, q2⟩ := h
  refine ⟨m, ds.map some ++ List.replicate (N.length - ds.length) none, S0, x0, ?_, ?_, ?_⟩
  · exact er_start r
  · simp [L2.start, r.length]
  · have hB : ∀ a, bodyF N.length lb ds S0 = a → fin (lb (ds.map some ++ List.replicate (N.length - ds.length) none) S0) = a := fun a h => h
    generalize hA : lb (ds.map some ++ List.replicate (N.length - ds.length) none) S0 = A0 at hB
    have hb0 : bodyF N.length lb ds S0 = fin A0 := by unfold bodyF; rw [hA]
    rw [hb0] at nb q1 q2
    refine ⟨?_, fun ρ' S' e σ' H' ⟨m', e', x', er', _⟩ => ?_, fun d S' e v H' z => ?_, fun ρ' S' e => ?_, fun ρ' S' e => ?_, fun C fs ρ' S' e u s' z => ?_⟩
    · cases A0 with
      | bad => exact absurd rfl nb
      | exc C fs S' => exact absurd rfl nb
      | ok fl S' => exact ⟨fl, S', rfl⟩
    · subst e
      exact q1 .non S' rfl .non H' ⟨m', e', x', .non⟩
    · subst e
      exact q1 d S' rfl v H' z
    · subst e
      exact absurd rfl nb
    · subst e
      exact absurd rfl nb
    · subst e
      refine takes_of (E := E) rfl rfl rfl rfl u s' (XE.imp z fun cls d σ' H' w => ?_)
      obtain ⟨w1, m', w2, w4, w5, _⟩ := w
      exact q2 C fs S' rfl cls d H' ⟨w1, m', w2, w4, w5⟩
end
end MP

namespace MP
open PySem PySem.Spec PyProof.Rows L2

section
variable {X : Cx}
/-! ### ints -/
def gSub : G2 := g2I fun i j => some (.int (i - j))
theorem opl_sub : OpL X (binaryOp .Sub) gSub := opl_int0 op_sub fun i j _ _ _ => .int _
def gMulI : G2 := g2I fun i j => if i.natAbs.log2 + j.natAbs.log2 < 1000000 then some (.int (i * j)) else none
theorem opl_mulI : OpL X (binaryOp .Mult) gMulI := opl_int op_mulW fun i j d e => by
  split at e
  · cases e; exact ⟨‹_›, fun _ _ _ => .int _⟩
  · cases e
def gDiv : G2 := g2I fun i j => if 0 < j ∧ j.natAbs.log2 < 9000 then some (.int (i / j)) else none
theorem opl_div : OpL X (binaryOp .FloorDiv) gDiv := opl_int op_fdivW fun i j d e => by
  split at e
  · cases e; exact ⟨‹_›, fun _ _ _ => .int _⟩
  · cases e
def gMod : G2 := g2I fun i j => if 0 < j then some (.int (i % j)) else none
theorem opl_mod : OpL X (binaryOp .Mod) gMod := opl_int op_mod fun i j d e => by
  split at e
  · cases e; exact ⟨‹_›, fun _ _ _ => .int _⟩
  · cases e
def gPow : G2 := g2I fun i j => if 0 ≤ j ∧ j ≤ 1000000 ∧ i.natAbs < 2 ^ 64 then some (.int (i ^ j.toNat)) else none
theorem opl_pow : OpL X (binaryOp .Pow) gPow := opl_int op_pow fun i j d e => by
  split at e
  · cases e; exact ⟨‹_›, fun _ _ _ => .int _⟩
  · cases e
def gIAdd : G2 := g2I fun i j => some (.int (i + j))
def gISub : G2 := g2I fun i j => some (.int (i - j))
def gLtI : G2 := g2I fun i j => some (.bl (decide (i < j)))
def gLeI : G2 := g2I fun i j => some (.bl (decide (i ≤ j)))
def gGtI : G2 := g2I fun i j => some (.bl (decide (j < i)))
def gGeI : G2 := g2I fun i j => some (.bl (decide (j ≤ i)))
theorem opl_ltI : OpL X (compareOp .Lt) gLtI := opl_int0 op_lt fun i j _ _ _ => .bl _
theorem opl_leI : OpL X (compareOp .LtE) gLeI := opl_int0 op_le fun i j _ _ _ => .bl _
theorem opl_gtI : OpL X (compareOp .Gt) gGtI := opl_int0 op_gt fun i j _ _ _ => .bl _
theorem opl_geI : OpL X (compareOp .GtE) gGeI := opl_int0 op_ge fun i j _ _ _ => .bl _
def gLtS : G2 := g2S fun i j => some (.bl (decide (i.cps.toList < j.cps.toList)))
theorem opl_ltS : OpL X (compareOp .Lt) gLtS := .of op_lt_str fun H m S x y dx dy d q rx ry e => by
  obtain ⟨i, j, e1, e2, e3⟩ := g2S_inv e
  cases e3
  exact ⟨i, j, vw_str rx e1, vw_str ry e2, qv_same q (.bl _)⟩

/-! ### == of data -/
mutual
def toPD : D → Option PyData
  | .non => some .none
  | .bl b => some (.bool b)
  | .int i => some (.int i)
  | .str s => some (.str s)
  | .tup xs => (toPDs xs).map .tuple
  | .ftup xs => (toPDs xs).map .tuple
  | .lst xs => (toPDs xs).map .list
  | _ => none
def toPDs : List D → Option (List PyData)
  | [] => some []
  | x :: xs => (toPD x).bind fun a => (toPDs xs).map fun b => a :: b
end
section
variable {K : PySem.W.Frag} {m : List Addr} {H : Hp}
mutual
theorem VR.dp {v : V} {d : D} {p : PyData} : VR K m H v d → toPD d = some p → Dp K H v p
  | .non, e => by simp only [toPD] at e; cases e; exact .non
  | .bl b, e => by simp only [toPD] at e; cases e; exact .bl b
  | .int b, e => by simp only [toPD] at e; cases e; exact .int b
  | .str b, e => by simp only [toPD] at e; cases e; exact .str b
  | @VR.tup _ _ _ a vs ds h r, e => by
    simp only [toPD] at e
    cases q : toPDs ds with
    | none => rw [q] at e; cases e
    | some ps => rw [q] at e; cases e; exact .tup (SqT.of h) (r.dps q)
  | @VR.ftup _ _ _ a vs ds o hd h r, e => by
    simp only [toPD] at e
    cases q : toPDs ds with
    | none => rw [q] at e; cases e
    | some ps => rw [q] at e; cases e; exact .tup (SqT.rd (.inr ⟨o, h⟩)) (r.dps q)
  | @VR.lst _ _ _ a vs ds n h r, e => by
    simp only [toPD] at e
    cases q : toPDs ds with
    | none => rw [q] at e; cases e
    | some ps => rw [q] at e; cases e; exact .lst (.inl h) (r.dps q)
  | @VR.lstK _ _ _ a vs ds o its n hk h1 h2 h3 h4 h5 r, e => by
    simp only [toPD] at e
    cases q : toPDs ds with
    | none => rw [q] at e; cases e
    | some ps => rw [q] at e; cases e; exact .lst (.inr ⟨o, its, n, hk, h1, h2, h3, h4, h5⟩) (r.dps q)
  | .dct _ _ _, e => by simp only [toPD] at e; cases e
  | .dctT _ _ _, e => by simp only [toPD] at e; cases e
  | .obj _ _ _, e => by simp only [toPD] at e; cases e
  | .exn0 _ _, e => by simp only [toPD] at e; cases e
  | .exnD _ _ _ _ _, e => by simp only [toPD] at e; cases e
  | .ref _, e => by simp only [toPD] at e; cases e
theorem VRs.dps {v : List V} {d : List D} {p : List PyData} : VRs K m H v d → toPDs d = some p → DpAll K H v p
  | .nil, e => by simp only [toPDs] at e; cases e; exact .nil
  | @VRs.cons _ _ _ v d vs ds h r, e => by
    simp only [toPDs] at e
    cases q : toPD d with
    | none => rw [q] at e; cases e
    | some a =>
      rw [q] at e
      cases q2 : toPDs ds with
      | none => rw [q2] at e; cases e
      | some b => rw [q2] at e; cases e; exact .cons (h.dp q) (r.dps q2)
end
/-- a place of the store is read one deep -/
theorem VR.dpv {S : Sto} (x : SR K m H S) {v : V} {d : D} {p : PyData} (r : VR K m H v d) (e : toPD (vw S d) = some p) : Dp K H v p := by
  cases r with
  | @ref i a h =>
    dsimp only [vw] at e
    cases q : S[i]? with
    | none => rw [q] at e; simp only [toPD] at e; cases e
    | some ob =>
      rw [q] at e
      have z := x.at_ i a ob h q
      cases z with
      | @lst vs ds hh rr =>
        simp only [toPD] at e
        cases q2 : toPDs ds with
        | none => rw [q2] at e; cases e
        | some ps => rw [q2] at e; cases e; exact .lst (SqL.of hh) (rr.dps q2)
      | dct _ _ => simp only [toPD] at e; cases e
      | dctT _ _ => simp only [toPD] at e; cases e
      | ins _ _ => simp only [toPD] at e; cases e
  | non => exact VR.dp (m := m) .non e
  | bl b => exact VR.dp (m := m) (.bl b) e
  | int b => exact VR.dp (m := m) (.int b) e
  | str b => exact VR.dp (m := m) (.str b) e
  | tup h r => exact VR.dp (m := m) (.tup h r) e
  | ftup hd h r => exact VR.dp (m := m) (.ftup hd h r) e
  | lst n h r => exact VR.dp (.lst n h r) e
  | lstK hk h1 h2 h3 h4 h5 r => exact VR.dp (m := m) (.lstK hk h1 h2 h3 h4 h5 r) e
  | dct n h r => exact VR.dp (.dct n h r) e
  | dctT n h r => exact VR.dp (.dctT n h r) e
  | obj n h r => exact VR.dp (.obj n h r) e
  | exn0 n h => exact VR.dp (.exn0 n h) e
  | exnD n nd h hd r => exact VR.dp (.exnD n nd h hd r) e
end
/-- plain things that are told apart at once -/
def eqS : D → D → Option Bool
  | .int i, .int j => some (decide (i = j))
  | .str i, .str j => some (decide (i = j))
  | .bl i, .bl j => some (decide (i = j))
  | .non, .non => some true
  | .non, .int _ | .int _, .non | .non, .str _ | .str _, .non | .non, .bl _ | .bl _, .non => some false
  | .int _, .str _ | .str _, .int _ | .bl _, .str _ | .str _, .bl _ => some false
  | _, _ => none
def eqP (S : Sto) (x y : D) : Option Bool := (toPD (vw S x)).bind fun a => (toPD (vw S y)).bind fun b => if SeqAt.shaped a = true ∧ SeqAt.shaped b = true then some (PyData.eqv a b) else none
def eqD (S : Sto) (x y : D) : Option Bool := (eqS x y).or (eqP S x y)
def gEq : G2 := fun S x y => (eqD S x y).map .bl
def gNe : G2 := fun S x y => (eqD S x y).map fun b => .bl (!b)
theorem eqS_rEq {K : PySem.W.Frag} {m : List Addr} {H : Hp} {x y : V} {dx dy : D} {b : Bool} (rx : VR K m H x dx) (ry : VR K m H y dy) (h : eqS dx dy = some b) : scal x y = true ∧ decide (x = y) = b := by
  cases rx <;> cases ry <;> simp only [eqS] at h <;> (try cases h) <;> refine ⟨rfl, ?_⟩ <;> simp
theorem eqP_inv {S : Sto} {x y : D} {b : Bool} (h : eqP S x y = some b) : ∃ p q, toPD (vw S x) = some p ∧ toPD (vw S y) = some q ∧ SeqAt.shaped p = true ∧ SeqAt.shaped q = true ∧ PyData.eqv p q = b := by
  unfold eqP at h
  cases q1 : toPD (vw S x) with
  | none => rw [q1] at h; cases h
  | some p =>
    rw [q1] at h
    cases q2 : toPD (vw S y) with
    | none => rw [q2] at h; cases h
    | some q =>
      rw [q2] at h
      dsimp only [Option.bind] at h
      split at h
      · rename_i z
        cases h
        exact ⟨p, q, rfl, rfl, z.1, z.2, rfl⟩
      · cases h
theorem opl_eq (hu : X.A.units + 64 < cLine) : OpL X (compareOp .Eq) gEq := ⟨fun pins s σ H m S x y dx dy d v u I q rx ry ex ey e => by
  unfold gEq eqD at e
  cases z : eqS dx dy with
  | some b =>
    rw [z] at e
    cases e
    obtain ⟨h1, h2⟩ := eqS_rEq rx ry z
    exact thn (op_eq pins s σ H x y v u _ I ex ey ⟨h1, by rw [h2]; exact qv_same q (.bl b)⟩) fun _ _ z => vp_of z
  | none =>
    rw [z] at e
    cases z2 : eqP S dx dy with
    | none => rw [z2] at e; cases e
    | some b =>
      rw [z2] at e
      cases e
      obtain ⟨p, p', h1, h2, h3, h4, h5⟩ := eqP_inv z2
      exact thn (op_eqD hu pins s σ H x y v u _ I ex ey ⟨p, p', rx.dpv q h1, ry.dpv q h2, h3, h4, by rw [h5]; exact qv_same q (.bl b)⟩) fun _ _ z => vp_of z⟩
theorem opl_ne (hu : X.A.units + 64 < cLine) : OpL X (compareOp .NotEq) gNe := ⟨fun pins s σ H m S x y dx dy d v u I q rx ry ex ey e => by
  unfold gNe eqD at e
  cases z : eqS dx dy with
  | some b =>
    rw [z] at e
    cases e
    obtain ⟨h1, h2⟩ := eqS_rEq rx ry z
    exact thn (op_ne pins s σ H x y v u _ I ex ey ⟨h1, by rw [h2]; exact qv_same q (.bl _)⟩) fun _ _ z => vp_of z
  | none =>
    rw [z] at e
    cases z2 : eqP S dx dy with
    | none => rw [z2] at e; cases e
    | some b =>
      rw [z2] at e
      cases e
      obtain ⟨p, p', h1, h2, h3, h4, h5⟩ := eqP_inv z2
      exact thn (op_neD hu pins s σ H x y v u _ I ex ey ⟨p, p', rx.dpv q h1, ry.dpv q h2, h3, h4, by rw [h5]; exact qv_same q (.bl _)⟩) fun _ _ z => vp_of z⟩
/-- is None -/
def isNonD : D → Bool
  | .non => true
  | _ => false
def gIsN : G2 := fun _ x y => match y with
  | .non => some (.bl (isNonD x))
  | _ => none
def gNotN : G2 := fun _ x y => match y with
  | .non => some (.bl (!isNonD x))
  | _ => none
/-! ### built-ins -/
def gLen : GC := fun S ds => match ds with
  | [d] => match vw S d with
    | .lst xs => some (.int xs.length)
    | .tup xs => some (.int xs.length)
    | .ftup xs => some (.int xs.length)
    | .str z => if z.length ≤ sizeLine then some (.int z.length) else none
    | _ => none
  | _ => none
theorem VRs.one {K : PySem.W.Frag} {m : List Addr} {H : Hp} {vs : List V} {d : D} (r : VRs K m H vs [d]) : ∃ v, vs = [v] ∧ VR K m H v d := by
  cases r with
  | cons h r => cases r; exact ⟨_, rfl, h⟩
theorem VRs.two {K : PySem.W.Frag} {m : List Addr} {H : Hp} {vs : List V} {d e : D} (r : VRs K m H vs [d, e]) : ∃ v w, vs = [v, w] ∧ VR K m H v d ∧ VR K m H w e := by
  cases r with
  | cons h r =>
    cases r with
    | cons h' r => cases r; exact ⟨_, _, rfl, h, h'⟩
theorem cl_len : CallL X (.builtin "len") gLen := .of call_len fun H m S xs ds d q r e => by
  unfold gLen at e
  split at e
  · rename_i d0
    obtain ⟨v, rfl, rv⟩ := r.one
    split at e
    · rename_i ys e1
      cases e
      obtain ⟨a, vs, rfl, h1, r1⟩ := vw_lst q rv e1
      exact ⟨_, ys.length, rfl, .inl ⟨vs, h1, r1.length.symm⟩, qv_same q (.int _)⟩
    · rename_i ys e1
      cases e
      obtain ⟨a, vs, rfl, h1, r1⟩ := vw_tup rv e1
      exact ⟨_, ys.length, rfl, .inr ⟨vs, SqT.of h1, r1.length.symm⟩, qv_same q (.int _)⟩
    · rename_i ys e1
      cases e
      obtain ⟨a, vs, o, rfl, _, h1, r1⟩ := vw_ftup rv e1
      exact ⟨_, ys.length, rfl, .inr ⟨vs, SqT.rd (.inr ⟨o, h1⟩), r1.length.symm⟩, qv_same q (.int _)⟩
    · rename_i z e1
      split at e
      · cases e
        cases vw_str rv e1
        exact ⟨_, z.length, rfl, ⟨‹_›, rfl⟩, qv_same q (.int _)⟩
      · cases e
    · cases e
  · cases e
def gAbs : GC := fun _ ds => match ds with
  | [.int i] => some (.int (if i < 0 then -i else i))
  | _ => none
def gMin2 : GC := fun _ ds => match ds with
  | [.int i, .int j] => some (.int (if j < i then j else i))
  | _ => none
theorem cl_min2 (hc : X.calm = true) : CallL X (.builtin "min") gMin2 := .of (call_min2 hc) fun H m S xs ds d q r e => by
  unfold gMin2 at e
  split at e
  · cases e
    obtain ⟨v, w, rfl, rv, rw'⟩ := r.two
    cases rv
    cases rw'
    exact ⟨_, _, rfl, qv_same q (.int _)⟩
  · cases e
def gMax2 : GC := fun _ ds => match ds with
  | [.int i, .int j] => some (.int (if j > i then j else i))
  | _ => none
theorem cl_max2 (hc : X.calm = true) : CallL X (.builtin "max") gMax2 := .of (call_max2 hc) fun H m S xs ds d q r e => by
  unfold gMax2 at e
  split at e
  · cases e
    obtain ⟨v, w, rfl, rv, rw'⟩ := r.two
    cases rv
    cases rw'
    exact ⟨_, _, rfl, qv_same q (.int _)⟩
  · cases e
def blsOf : List D → Option (List Bool)
  | [] => some []
  | .bl b :: r => (blsOf r).map fun bs => b :: bs
  | _ => none
theorem vrs_bls {K : PySem.W.Frag} {m : List Addr} {H : Hp} : ∀ {vs : List V} {ds : List D} {bs : List Bool}, VRs K m H vs ds → blsOf ds = some bs → vs = bs.map V.bl
  | _, _, bs, .nil, e => by simp only [blsOf] at e; cases e; rfl
  | _, _, bs, @VRs.cons _ _ _ v d vs ds h r, e => by
    cases h with
    | bl b =>
      simp only [blsOf] at e
      cases q : blsOf ds with
      | none => rw [q] at e; cases e
      | some cs => rw [q] at e; cases e; rw [vrs_bls r q]; rfl
    | _ => simp only [blsOf] at e; cases e
def gAll : GC := fun S ds => match ds with
  | [d] => match vw S d with
    | .lst xs => (blsOf xs).map fun bs => .bl (bs.all id)
    | _ => none
  | _ => none
def gAny : GC := fun S ds => match ds with
  | [d] => match vw S d with
    | .lst xs => (blsOf xs).map fun bs => .bl (bs.any id)
    | _ => none
  | _ => none
theorem cl_all (hc : X.calm = true) : CallL X (.builtin "all") gAll := .of (cr_all hc) fun H m S xs ds d q r e => by
  unfold gAll at e
  split at e
  · obtain ⟨v, rfl, rv⟩ := r.one
    split at e
    · rename_i ys e1
      obtain ⟨a, vs, rfl, h1, r1⟩ := vw_lst q rv e1
      cases q2 : blsOf ys with
      | none => rw [q2] at e; cases e
      | some bs =>
        rw [q2] at e
        cases e
        exact ⟨a, bs, rfl, by rw [← vrs_bls r1 q2]; exact h1, qv_same q (.bl _)⟩
    · cases e
  · cases e
def gTuple : GC := fun S ds => match ds with
  | [d] => match vw S d with
    | .lst xs => some (.tup xs)
    | .tup xs => some (.tup xs)
    | _ => none
  | _ => none
theorem cl_tuple : CallL X (.type "tuple") gTuple := .of call_tuple_of fun H m S xs ds d q r e => by
  unfold gTuple at e
  split at e
  · obtain ⟨v, rfl, rv⟩ := r.one
    split at e
    · rename_i ys e1
      cases e
      obtain ⟨a, vs, rfl, h1, r1⟩ := vw_lst q rv e1
      exact ⟨a, vs, rfl, .inl ⟨h1, fun l hl => qv_new q hl (vr_newTup q hl r1)⟩⟩
    · rename_i ys e1
      cases e
      obtain ⟨a, vs, rfl, h1, r1⟩ := vw_tup rv e1
      exact ⟨a, vs, rfl, .inr ⟨SqT.of h1, qv_same q (.tup h1 r1)⟩⟩
    · cases e
  · cases e
def gList : GC := fun S ds => match ds with
  | [d] => match vw S d with
    | .lst xs => some (.lst xs)
    | .tup xs => some (.lst xs)
    | .ftup xs => some (.lst xs)
    | _ => none
  | _ => none
/-- str of an int, of a text -/
def gStr : GC := fun _ ds => match ds with
  | [.int i] => if i.natAbs.log2 < 1920 then some (.str (toString i)) else none
  | [.str z] => some (.str z)
  | _ => none
theorem cl_str : CallL X (.type "str") gStr := ⟨fun pins s σ H m S xs ds d us I q r rv e => by
  unfold gStr at e
  split at e
  · split at e
    · cases e
      obtain ⟨v, rfl, rv1⟩ := r.one
      cases rv1
      exact thn (call_str_int pins s σ H _ us _ I rv ⟨_, rfl, ‹_›, qv_same q (.str _)⟩) fun _ _ z => vp_of z
    · cases e
  · cases e
    obtain ⟨v, rfl, rv1⟩ := r.one
    cases rv1
    exact thn (SkE.call_str_str pins s σ H _ us _ I rv ⟨_, rfl, qv_same q (.str _)⟩) fun _ _ z => vp_of z
  · cases e⟩
/-- repr of an int, a truth -/
def gRepr : GC := fun _ ds => match ds with
  | [.int i] => if i.natAbs.log2 < 1920 then some (.str (toString i)) else none
  | [.bl b] => some (.str (if b then "True" else "False"))
  | _ => none
end
end MP

namespace MP
open PySem PySem.Spec PyProof.Rows L2

/-! ### what a thing is -/
inductive Tg where
  | non | bl | int | str | tup | lst | dct | obj (C : Addr)
  deriving DecidableEq
def tyG : Tg → Value
  | .non => .type "NoneType"
  | .bl => .type "bool"
  | .int => .type "int"
  | .str => .type "str"
  | .tup => .type "tuple"
  | .lst => .type "list"
  | .dct => .type "dict"
  | .obj C => .ref C
def tgD : D → Option Tg
  | .non => some .non
  | .bl _ => some .bl
  | .int _ => some .int
  | .str _ => some .str
  | .tup _ => some .tup
  | .ftup _ => some .tup
  | .lst _ => some .lst
  | .dct _ _ => some .dct
  | .obj C _ => some (.obj C)
  | .exn _ _ => none
  | .ref _ => none
structure OwnOk (K : PySem.W.Frag) (C : Addr) : Prop where
  cl : Cls K C
  ha : PySem.W.findIn K (.ref C) "__class__" = some (some (.builtin "object.__class__"))
  hn : PySem.W.specialIn K (.builtin "object.__class__") "__get__" = some (some (.builtin "getset_descriptor.__get__"))
  htk : PySem.W.takesIn K (.builtin "object.__class__") = some true
  hm : PySem.W.mroIn K C (.type "object") = some true
section
variable {X : Cx} {pins : List (Addr × Obj)} {σ : L2.St} {H : Hp} {s : Shared} {m : List Addr} {S : Sto}
/-- what the library's rules ask of a value of that type -/
def Kit (K : PySem.W.Frag) (s : Shared) (u t : Value) : Prop := ∃ P : Heap → Prop, PySem.W.KitX K u t P ∧ P s.heap ∧ u ≠ .builtin "__main__.__loader__#opaque"
theorem kit_rd {a : Addr} {kvs : List (Key × V)} (I : Inv X pins σ H s) (h : Rd H a (.dK kvs)) : Kit X.K s (.ref a) (.type "dict") := by
  rcases h with h | ⟨ob, h⟩
  · exact kit_of I (x := .ref a) rfl (.base (.dK h))
  · exact kit_of I (x := .ref a) rfl (.fDict h)
theorem kit_rdT {a : Addr} {kvs : List (List Key × V)} (I : Inv X pins σ H s) (h : Rd H a (.dT kvs)) : Kit X.K s (.ref a) (.type "dict") := by
  rcases h with h | ⟨ob, h⟩
  · exact kit_of I (x := .ref a) rfl (.base (.dT h))
  · obtain ⟨_, _, _, vs, _, o, es, ep, h1, h2, _⟩ := (show ObjOk X.prog X.w H s.heap a (.frz ob (.dT kvs)) from I.hok a _ h)
    exact ⟨_, PySem.W.kitx_dict, ⟨o, h1, h2.1⟩, fun z => nomatch z⟩
theorem kit_lst {a : Addr} {xs : List V} (I : Inv X pins σ H s) (h : Rd H a (.lst xs)) : Kit X.K s (.ref a) (.type "list") := by
  rcases h with h | ⟨ob, h⟩
  · exact kit_of I (x := .ref a) rfl (.base (.lst h))
  · exact kit_of I (x := .ref a) rfl (.base (.frz h))
theorem kit_d {v : V} {u : Value} {d : D} {t : Tg} (I : Inv X pins σ H s) (x : SR X.K m H S) (r : RelV v u) (w : VR X.K m H v d) (ht : tgD (vw S d) = some t) (ho : ∀ C, t = .obj C → OwnOk X.K C) : Kit X.K s u (tyG t) := by
  cases w with
  | non => cases ht; exact kit_of I r (.base .non)
  | bl b => cases ht; exact kit_of I r (.base (.bl b))
  | int b => cases ht; exact kit_of I r (.base (.int b))
  | str b => cases ht; exact kit_of I r (.base (.str b))
  | tup h _ => cases ht; exact kit_of I r (.base (.tup h))
  | ftup _ h _ => cases ht; exact kit_of I r (.fTuple h)
  | lst n h _ => cases ht; cases r; exact kit_lst I h
  | lstK hk h1 h2 h3 h4 h5 _ => cases ht; exact kit_of I r (.kList hk h1)
  | dct n h _ => cases ht; cases r; exact kit_rd I (.inl h)
  | dctT n h _ => cases ht; cases r; exact kit_rdT I (.inl h)
  | @obj a C dx fs gs n h _ =>
    cases ht
    have o := ho C rfl
    exact kit_of I r (.base (.ins h o.cl o.ha o.hn o.htk o.hm))
  | exn0 n h => cases ht
  | exnD n nd h hd _ => cases ht
  | @ref i a h =>
    dsimp only [vw] at ht
    cases q : S[i]? with
    | none => rw [q] at ht; cases ht
    | some ob =>
      rw [q] at ht
      cases r
      cases x.at_ i a ob h q with
      | lst h _ => cases ht; exact kit_lst I (.inl h)
      | dct h _ => cases ht; exact kit_rd I (.inl h)
      | dctT h _ => cases ht; exact kit_rdT I (.inl h)
      | @ins C dx fs gs h _ =>
        cases ht
        have o := ho C rfl
        exact kit_of I (x := .ref a) rfl (.base (.ins h o.cl o.ha o.hn o.htk o.hm))
end

/-! ### isinstance -/
abbrev Tab := Tg → Option Bool
structure IsiOk (K : PySem.W.Frag) (c : Value) (tab : Tab) : Prop where
  one : ∀ t b, tab t = some b → PySem.W.kitOne K (tyG t) c = some b ∧ ∀ C, t = .obj C → OwnOk K C
section
variable {X : Cx} {e ce : Expr} {pos p : Pos} {l : LE} {cv : Value} {cw : V} {tab : Tab}
def gIsi (tab : Tab) (S : Sto) (d : D) : Option D := ((tgD (vw S d)).bind tab).map .bl
def lIsi (tab : Tab) (l : LE) : LE := fun ρ S => (l ρ S).bind fun d S1 => lift1 (gIsi tab S1 d) S1
theorem pel_isi (hg : Gl X "isinstance") (hm : X.mg "isinstance" = none) (he : PEL X e l) (hc : PE X ce (tC cw)) (hcv : ClsV cw cv) (ok : IsiOk X.K cv tab)
    (hs : starEach [e, ce] X.env = (false, eval e X.env) :: starEach [ce] X.env := by rfl) (hs2 : starEach [ce] X.env = (false, eval ce X.env) :: starEach [] X.env := by rfl)
    (hpl : (backTo pos (starEach [ce] X.env)).any (·.1) = false := by rfl) : PEL X (.Call (.Name "isinstance" p) [e, ce] [] pos) (lIsi tab l) := by
  refine ⟨fun pins s σ H m ρ S I x r hp => ?_⟩
  refine wpAny_Call_Name_kw (ld_blt I hg hm (u := .builtin "isinstance") (by decide +kernel) ?_ (by decide) (by decide))
  refine PyProof.Rows.callWith_builtin1 ?_ hs hpl
  rw [hs]
  show wpAny _ _ (spliced ((false, eval e X.env) :: backTo pos (starEach [ce] X.env))) _ _ s
  refine Calls.spliced_cons (run_seq he I x r hp fun d S1 q1 v u s1 H1 m1 I1 rv e1 x1 w1 r1 hp1 => ?_)
  rw [hs2]
  show wpAny _ _ (spliced ((false, eval ce X.env) :: backTo pos (starEach [] X.env))) _ _ s1
  refine Calls.spliced_cons (thn (hc.run pins s1 σ H1 (fun v' H' => v' = cw ∧ H' = H1) I1 ⟨rfl, rfl⟩) fun u2 s2 ⟨v2, H2, I2, rv2, ev, eH⟩ => ?_)
  subst ev
  subst eH
  refine Calls.spliced_nil ?_
  cases q2 : gIsi tab S1 d with
  | none => rw [q2] at hp1; exact absurd rfl hp1.1
  | some d' =>
    have e0 : lIsi tab l ρ S = .ok d' S1 := by unfold lIsi; rw [q1, bind_ok, q2]; rfl
    rw [e0]
    unfold gIsi at q2
    cases qt : tgD (vw S1 d) with
    | none => rw [qt] at q2; cases q2
    | some t =>
      rw [qt] at q2
      cases qb : tab t with
      | none => rw [show (some t).bind tab = tab t from rfl, qb] at q2; cases q2
      | some b =>
        rw [show (some t).bind tab = tab t from rfl, qb] at q2
        cases q2
        obtain ⟨k1, k2⟩ := ok.one t b qb
        obtain ⟨P, Z, pp, hx⟩ := kit_d I2 x1 rv w1 qt k2
        have ec := hcv.eq rv2
        subst ec
        exact PySem.W.kia_one Z I2.kIn pp k1 hx fun tk => ⟨_, S1, rfl, .bl b, H2, m1, I2.tok tk, rfl, e1, x1, .bl b⟩
end

/-! ### own special methods -/
/-- somewhere below the running body, with room -/
structure SubA (X : Cx) (n : Nat) (A : Around) : Prop where
  room : Room n A
  fr : A.frames = X.A.frames
theorem SubA.in1 {X : Cx} {n : Nat} {A : Around} (s : SubA X (n + 1) A) : SubA X n A.in1 := ⟨s.room.in1, s.fr⟩
theorem SubA.mono {X : Cx} {n m : Nat} {A : Around} (s : SubA X n A) (h : m ≤ n) : SubA X m A := ⟨s.room.mono h, s.fr⟩
theorem SubA.self {X : Cx} {k : Nat} (h : Room k X.A) : SubA X k X.A := ⟨h, rfl⟩
def F1 (gp : Sto → D → Option D) : F := fun ds S => match ds with
  | [x] => lift1 (gp S x) S
  | _ => .bad
def F2 (gp : G2) : F := fun ds S => match ds with
  | [x, y] => lift1 (gp S x y) S
  | _ => .bad
section
variable {X : Cx} {pins : List (Addr × Obj)} {σ : L2.St} {H : Hp} {s : Shared} {m : List Addr} {S S' : Sto} {k : Nat} {f C : Addr} {fd : FuncData} {ps : List Str} {g : F} {vs : List V} {us : List Value} {ds : List D} {d : D}
/-- == by an own __eq__; the other one may be of the types ts -/
def gOwnEq (C : Addr) (ts : List Tg) (gp : G2) : G2 := fun S x y => match vw S x with
  | .obj C' _ => if C' = C then (match tgD (vw S y) with
    | some t => if t ∈ ts then gp S x y else none
    | none => none) else none
  | _ => none
structure EqM (X : Cx) (C : Addr) (ts : List Tg) (gp : G2) : Prop where
  ex : ∃ (k : Nat) (f : Addr) (fd : FuncData) (ps : List Str), FnL X.prog X.w X.K X.mg X.base k f fd ps (F2 gp) ∧ Room (k + 2) X.A ∧ Binds X.K fd ps [] ∧ ps.length = 2 ∧ PySem.W.findIn X.K (.ref C) "__eq__" = some (some (.ref f)) ∧ PySem.W.isFn X.K (.ref f) = true
  fst : ∀ t ∈ ts, PySem.W.notFirst X.K C (tyG t) = true ∧ ∀ C', t = .obj C' → OwnOk X.K C'
end
/-! ### != by object.__ne__ -/
section
variable {prog : Program} {w : World} {K : PySem.W.Frag} {h₀ : Heap} {L m : List Addr} {A : Around} {E : Value → Shared → Prop} {s : Shared} {x f C : Addr} {ox : Obj} {od : Option Obj}
end
end MP

namespace MP
open PySem PySem.Spec PyProof.Rows L2

section
variable {X : Cx} {C : Addr}
/-- != by an own __eq__ and object.__ne__ -/
def gOwnNe (C : Addr) (ts : List Tg) (gp : G2) : G2 := fun S x y => (gOwnEq C ts gp S x y).bind fun d => match d with
  | .bl b => some (.bl (!b))
  | _ => none
/-- an own special method of one argument -/
structure OneM (X : Cx) (C : Addr) (nm : Str) (gp : Sto → D → Option D) : Prop where
  ex : ∃ (k : Nat) (f : Addr) (fd : FuncData) (ps : List Str), FnL X.prog X.w X.K X.mg X.base k f fd ps (F1 gp) ∧ Room (k + 3) X.A ∧ Binds X.K fd ps [] ∧ ps.length = 1 ∧ PySem.W.findIn X.K (.ref C) nm = some (some (.ref f)) ∧ PySem.W.isFn X.K (.ref f) = true
def gOwn1 (C : Addr) (gp : Sto → D → Option D) (S : Sto) (d : D) : Option D := match vw S d with
  | .obj C' _ => if C' = C then gp S d else none
  | _ => none
def strD : D → Option D
  | .str z => some (.str z)
  | _ => none
def gStrO (C : Addr) (gp : Sto → D → Option D) : GC := fun S ds => match ds with
  | [d] => (gOwn1 C gp S d).bind strD
  | _ => none
def gLenO (C : Addr) (gp : Sto → D → Option D) : GC := fun S ds => match ds with
  | [d] => (gOwn1 C gp S d).bind fun e => match e with
    | .int n => if 0 ≤ n ∧ n < 2 ^ 63 then some (.int n) else none
    | _ => none
  | _ => none
end
end MP

namespace MP
open PySem PySem.Spec PyProof.Rows L2

/-! ### f'..' -/
section
variable {X : Cx} {e : Expr} {es : List Expr} {l : LE} {pos : Pos}
def gFmt (S : Sto) (d : D) : Option D := match vw S d with
  | .str y => if y.length ≤ sizeLine then some (.str y) else none
  | .int i => if i.natAbs.log2 < 1920 then some (.str (toString i)) else none
  | _ => none
def lFmt (l : LE) : LE := fun ρ S => (l ρ S).bind fun d S1 => lift1 (gFmt S1 d) S1
abbrev LJ := Str → Ev → Sto → R Str
structure PJL (X : Cx) (es : List Expr) (l : LJ) : Prop where
  run : ∀ (acc : Str) (pins : List (Addr × Obj)) (s : Shared) (σ : L2.St) (H : Hp) (m : List Addr) (ρ : Ev) (S : Sto) (Rr : Str → Shared → Prop), acc.length ≤ sizeLine → Inv X pins σ H s → SR X.K m H S → ER X.K m H σ ρ → Hope X σ m H (l acc ρ S) →
    (∀ out S1 s1 H1 m1, l acc ρ S = .ok out S1 → out.length ≤ sizeLine → Inv X pins σ H1 s1 → Ext m H m1 H1 → SR X.K m1 H1 S1 → Rr out s1) → Joins (model X.prog X.w) X.A X.xe (evalEach es X.env) acc Rr s
def jNil : LJ := fun acc _ S => .ok acc S
def jCons (l : LE) (t : LJ) : LJ := fun acc ρ S => (l ρ S).bind fun d S1 => match d with
  | .str y => if (acc ++ y).length ≤ sizeLine then t (acc ++ y) ρ S1 else .bad
  | _ => .bad
def lJoin (t : LJ) : LE := fun ρ S => (t Str.empty ρ S).bind fun out S1 => .ok (.str out) S1
end

/-! ### methods of the built-in types -/
/-- the value and the store behind a method -/
abbrev GM := Sto → D → List D → Option (D × Sto)
structure MtL (X : Cx) (id : String) (g : GM) : Prop where
  run : ∀ (pins : List (Addr × Obj)) (s : Shared) (σ : L2.St) (H : Hp) (m : List Addr) (S S' : Sto) (x : V) (dx d : D) (xs : List V) (ds : List D) (v : Value) (us : List Value), Inv X pins σ H s → SR X.K m H S → VR X.K m H x dx → VRs X.K m H xs ds → RelV x v → Vals xs us → g S dx ds = some (d, S') →
    wpAny (model X.prog X.w) X.A (call (.builtin id) (v :: us)) (VP X pins σ m H d S') X.xe s
def isTy (T : String) (S : Sto) (d : D) : Bool := match vw S d with
  | .lst _ => T == "list"
  | .str _ => T == "str"
  | .dct _ _ => match d with
    | .ref _ => T == "dict"
    | _ => false
  | _ => false
theorem ty_of {X : Cx} {m : List Addr} {H : Hp} {S : Sto} {v : V} {d : D} {T : String} (x : SR X.K m H S) (r : VR X.K m H v d) (h : isTy T S d = true) : tyV X.K T v H := by
  unfold isTy at h
  split at h
  · rename_i xs q
    obtain ⟨a, vs, rfl, h1, _⟩ := vw_lst x r q
    exact .inl ⟨beq_iff_eq.mp h, vs, h1⟩
  · rename_i z q
    obtain rfl := vw_str r q
    exact beq_iff_eq.mp h
  · rename_i kvs q
    split at h
    · rename_i i
      cases r with
      | @ref _ a hm =>
        dsimp only [vw] at q
        cases q2 : S[i]? with
        | none => rw [q2] at q; cases q
        | some ob =>
          rw [q2] at q
          cases x.at_ i a ob hm q2 with
          | lst _ _ => cases q
          | ins _ _ => cases q
          | dct h1 _ => exact .inr (.inr (.inl ⟨beq_iff_eq.mp h, .inl ⟨_, h1⟩⟩))
          | dctT h1 _ => exact .inr (.inr (.inl ⟨beq_iff_eq.mp h, .inr ⟨_, h1⟩⟩))
    · cases h
  · cases h
def liftM (o : Option (D × Sto)) : R D := match o with
  | some (d, S) => .ok d S
  | none => .bad
def lBM (T : String) (g : GM) (lo : LE) (t : LA) : LE := fun ρ S => (lo ρ S).bind fun d S0 => if isTy T S0 d = true then (t ρ S0).bind fun ds S1 => liftM (g S1 d ds) else .bad
section
variable {X : Cx} {o e : Expr} {es : List Expr} {lo : LE} {t : LA} {name : Str} {apos cpos : Pos} {T id : String} {g : GM}
theorem pel_bm (pa : PlainAttrs T) (slot : Slot T name id) (hty : typeOf (.builtin id) = pure (.type "method_descriptor")) (hm : MtL X id g) (ho : PEL X o lo) (ha : PAL X (e :: es) t)
    (hbase : attributeBase o name X.env (eval o X.env) = eval o X.env := by rfl)
    (hfew : ((backTo cpos (starEach (e :: es) X.env)).all (fun x => !x.1) && (backToKw cpos (keywordEach [] X.env)).all (fun x => x.1.isSome)
      && decide ((e :: es).length + ([] : List Keyword).length + (if ([] : List Keyword).isEmpty then 0 else 1) < 30)) = true := by rfl)
    (hline : (apos.endLine == cpos.line) = true := by rfl) (hs : starEach (e :: es) X.env = (false, eval e X.env) :: starEach es X.env := by rfl) (hplain : (backTo cpos (starEach es X.env)).any (·.1) = false := by rfl) :
    PEL X (.Call (.Attribute o name apos) (e :: es) [] cpos) (lBM T g lo t) := by
  refine ⟨fun pins s σ H m ρ S I x r hp => ?_⟩
  refine wpAny_Call_method_late hbase hfew hline rfl (run_seq ho I x r hp fun d S0 q0 v u s1 H1 m1 I1 rv e1 x1 w1 r1 hp1 => ?_)
  have hc := hope_if hp1
  rw [if_pos hc] at hp1
  obtain ⟨h1, h2⟩ := tyV_is I1 rv (ty_of x1 w1 hc)
  refine ⟨T, id, pa, slot, hty, h1, h2, ?_⟩
  have hA : wpAny (model X.prog X.w) X.A (spliced (backTo cpos (starEach (e :: es) X.env))) (fun us s' => wpAny (model X.prog X.w) X.A (call (.builtin id) (u :: us)) (VPr X pins σ m H (lBM T g lo t ρ S)) X.xe s') X.xe s1 :=
    run_seqA ha I1 x1 r1 hp1 fun ds S1 q1 vs us s2 H2 m2 I2 rv2 e2 x2 w2 r2 hp2 => by
      cases q2 : g S1 d ds with
      | none => rw [q2] at hp2; exact absurd rfl hp2.1
      | some z =>
        obtain ⟨d', S'⟩ := z
        have e0 : lBM T g lo t ρ S = .ok d' S' := by unfold lBM; rw [q0, bind_ok, if_pos hc, q1, bind_ok, q2]; rfl
        rw [e0]
        exact thn (hm.run pins s2 σ H2 m2 S1 S' v d d' vs ds u us I2 x2 (w1.ext e2 x1.muts) w2 rv rv2 q2) fun _ _ z => (vpr_of z).left (e1.trans e2)
  rw [hs] at hA ⊢
  exact Calls.callWith_builtin (by show (false || (backTo cpos (starEach es X.env)).any (·.1)) = false; rw [hplain] <;> rfl) (Calls.evalArgs_plain hA)
end
section
variable {X : Cx}
def stApp : GM := fun S r ds => match r, ds with
  | .ref j, [y] => match S[j]? with
    | some (.lst xs) => if xs.length < sizeLine then some (.non, S.set j (.lst (xs ++ [y]))) else none
    | _ => none
  | _, _ => none
theorem mtl_append : MtL X "list.append" stApp := ⟨fun pins s σ H m S S' x dx d xs ds v us I q r rs rv rvs e => by
  unfold stApp at e
  split at e
  · rename_i j y
    split at e
    · rename_i l q1
      split at e
      · rename_i hz
        cases e
        obtain ⟨a, rfl, ha, orr⟩ := VR.ref_at q r q1
        obtain ⟨w, rfl, rw'⟩ := rs.one
        cases orr with
        | @lst vs _ hh rr =>
          obtain ⟨z1, z2⟩ := q.write (o' := .lst (vs ++ [w])) (ob' := .lst (l ++ [y])) ha fun e => .lst upd_same ((rr.append (.cons rw' .nil)).ext e q.muts)
          exact thn (mt_append pins s σ H (.ref a) [w] v us (fun v' H' => v' = .non ∧ H' = upd H a (.lst (vs ++ [w]))) I rv rvs ⟨a, vs, w, rfl, rfl, hh, by rw [rr.length]; exact hz, rfl, rfl⟩) fun _ s' ⟨v', H', I', rv', ev, eH⟩ => by
            subst ev; subst eH
            exact ⟨.non, _, m, I', rv', z1, z2, .non⟩
      · cases e
    · cases e
  · cases e⟩
def stPopAt : GM := fun S r ds => match r, ds with
  | .ref j, [.int i] => match S[j]? with
    | some (.lst xs) => if -(2 ^ 63) ≤ i ∧ i < 2 ^ 63 then (seqIndex? i xs.length).bind fun k => (xs[k]?).map fun y => (y, S.set j (.lst (xs.eraseIdx k))) else none
    | _ => none
  | _, _ => none
theorem list_append_ty : typeOf (.builtin "list.append") = (pure (.type "method_descriptor") : Sem Value) := PySem.F.type_list_append
theorem pel_append {o e : Expr} {lo : LE} {le : LE} {apos cpos : Pos} (ho : PEL X o lo) (he : PEL X e le)
    (hbase : attributeBase o "append" X.env (eval o X.env) = eval o X.env := by rfl)
    (hfew : ((backTo cpos (starEach [e] X.env)).all (fun x => !x.1) && (backToKw cpos (keywordEach [] X.env)).all (fun x => x.1.isSome)
      && decide ([e].length + ([] : List Keyword).length + (if ([] : List Keyword).isEmpty then 0 else 1) < 30)) = true := by rfl)
    (hline : (apos.endLine == cpos.line) = true := by rfl) (hs : starEach [e] X.env = (false, eval e X.env) :: starEach [] X.env := by rfl) :
    PEL X (.Call (.Attribute o "append" apos) [e] [] cpos) (lBM "list" stApp lo (aCons le aNil)) :=
  pel_bm PySem.F.plainAttrs_list PySem.F.slot_list_append list_append_ty mtl_append ho (pal_cons he pal_nil hs) hbase hfew hline hs
end
end MP

namespace MP
open PySem PySem.Spec PyProof.Rows L2

/-! ### keywords -/
structure PKL (X : Cx) (kws : List Keyword) (l : LA) : Prop where
  run : ∀ (pos : Pos) (pins : List (Addr × Obj)) (s : Shared) (σ : L2.St) (H : Hp) (m : List Addr) (ρ : Ev) (S : Sto), Inv X pins σ H s → SR X.K m H S → ER X.K m H σ ρ → Hope X σ m H (l ρ S) →
    wpAny (model X.prog X.w) X.A (evalAll ((backToKw pos (keywordEach kws X.env)).map (·.2))) (APr X pins σ m H (l ρ S)) X.xe s
section
variable {X : Cx} {e : Expr} {kws : List Keyword} {l : LE} {t : LA} {nm : Option Str} {kpos : Pos}
theorem pkl_nil : PKL X [] aNil := ⟨fun pos pins s σ H m ρ S I x r hp => wpAny_evalAll_nil ⟨[], S, [], H, m, rfl, I, .nil, Ext.refl, x, .nil⟩⟩
theorem pkl_cons (he : PEL X e l) (ht : PKL X kws t) : PKL X (⟨nm, e, kpos⟩ :: kws) (aCons l t) := by
  refine ⟨fun pos pins s σ H m ρ S I x r hp => ?_⟩
  show wpAny _ _ (evalAll ((do let v ← eval e X.env; standAt pos; pure v) :: (backToKw pos (keywordEach kws X.env)).map (·.2))) _ _ s
  refine wpAny_evalAll_cons (wpAny_bind (run_seq he I x r hp fun d S1 q1 v u s1 H1 m1 I1 rv e1 x1 w1 r1 hp1 => wpAny_bind (wpAny_standAt (wpAny_pure ?_))))
  have hp2 : Hope X σ m1 H1 (t ρ S1) := hope_seq hp1
  refine thn (ht.run pos pins s1 σ H1 m1 ρ S1 I1 x1 r1 hp2) fun us s2 ⟨ds, S2, vs, H2, m2, q2, I2, rv2, e2, x2, w2⟩ => ?_
  refine ⟨d :: ds, S2, v :: vs, H2, m2, ?_, I2, .cons rv rv2, e1.trans e2, x2, .cons (w1.ext e2 x1.muts) w2⟩
  unfold aCons
  rw [q1, bind_ok, q2]
  rfl
end
/-- the values in the parameters' order -/
def pick {α : Type} (p : List Nat) (xs : List α) : List α := p.filterMap fun i => xs[i]?
theorem VRs.pick {K : PySem.W.Frag} {m : List Addr} {H : Hp} {vs : List V} {ds : List D} (r : VRs K m H vs ds) : ∀ p : List Nat, VRs K m H (MP.pick p vs) (MP.pick p ds)
  | [] => .nil
  | i :: p => by
    unfold MP.pick
    cases q : ds[i]? with
    | none =>
      have h : vs[i]? = none := by
        rw [List.getElem?_eq_none_iff] at q ⊢
        rw [r.length]; exact q
      rw [List.filterMap_cons_none q, List.filterMap_cons_none h]
      exact VRs.pick r p
    | some d =>
      obtain ⟨u, hu, ru⟩ := r.getr q
      rw [List.filterMap_cons_some q, List.filterMap_cons_some hu]
      exact .cons ru (VRs.pick r p)
/-- how a call with n values by place and keywords ks binds: p the order, ds0 the values by default -/
structure KwB (K : PySem.W.Frag) (fd : FuncData) (ps : List Str) (n : Nat) (ks : List Str) (p : List Nat) (ds0 : List Value) : Prop where
  to : ∀ (s : Shared) (us ws : List Value), K.In s.heap → us.length = n → ws.length = ks.length → BindsTo s fd ⟨us, ks.zip ws⟩ (ps.zip (pick p (us ++ ws ++ ds0)))
  len : ∀ {α : Type} (xs : List α), xs.length = n + ks.length + ds0.length → (pick p xs).length = ps.length
section
variable {X : Cx} {e : Expr} {pos p : Pos} {es : List Expr} {kws : List Keyword} {t tk : LA} {x : Str} {k n : Nat} {f C : Addr} {fd : FuncData} {ps ks : List Str} {g : F}
/-- what is bound: the values by place, the keywords', those by default -/
def kwF (n m : Nat) (g : F) (pk : List Nat) (dd : List D) (ds es : List D) (S : Sto) : R D := if ds.length = n ∧ es.length = m then g (pick pk (ds ++ es ++ dd)) S else .bad
def lCallK (n m : Nat) (g : F) (pk : List Nat) (dd : List D) (t tk : LA) : LE := fun ρ S => (t ρ S).bind fun ds S1 => (tk ρ S1).bind fun es S2 => kwF n m g pk dd ds es S2
/-- C(k = v, ..): the values in the order of __init__'s parameters behind self; pk: where they stand, self being 0 -/
def kwM (m : Nat) (gn : F) (es : List D) (S : Sto) : R D := if es.length = m then gn es S else .bad
end
end MP

namespace MP
open PySem PySem.Spec PyProof.Rows L2
section
variable {X : Cx}
def gAdd : G2 := fun S x y => ((gAddI S x y).or (gAddS S x y)).or (gCat S x y)
theorem opl_add : OpL X (binaryOp .Add) gAdd := (opl_addI.or opl_addS).or opl_catT
theorem opl_mul : OpL X (binaryOp .Mult) gMulI := opl_mulI
end
end MP

namespace MP
open PySem PySem.Spec PyProof.Rows L2
theorem lg_lt {i : Int} {k : Nat} (h : i.natAbs < 2 ^ k) (hk : 0 < k) : i.natAbs.log2 < k := by
  by_cases z : i.natAbs = 0
  · rw [z]; simpa using hk
  · exact (Nat.log2_lt z).mpr h
theorem abs_lt {i : Int} {n : Nat} (h1 : -(n : Int) < i) (h2 : i < n) : i.natAbs < n := by omega
/-- a number of at most 600 figures -/
def Sm (i : Int) : Prop := -(10 ^ 250) < i ∧ i < 10 ^ 250
theorem Sm.lg {i : Int} (h : Sm i) : i.natAbs.log2 < 900 := by
  refine lg_lt (Nat.lt_of_lt_of_le (abs_lt (n := 10 ^ 250) ?_ ?_) (by decide +kernel)) (by decide)
  · have := h.1; simpa using this
  · have := h.2; simpa using this
theorem Sm.of {i : Int} (h0 : 0 ≤ i) {n : Int} (h1 : i < n) (hn : n ≤ 10 ^ 250) : Sm i := by
  have : (0 : Int) < 10 ^ 250 := by decide +kernel
  exact ⟨by omega, by omega⟩
theorem mul_ii {S : Sto} {i j : Int} (h : Sm i) (h' : Sm j) : gMulI S (.int i) (.int j) = some (.int (i * j)) := by
  have a := h.lg
  have b := h'.lg
  show (if i.natAbs.log2 + j.natAbs.log2 < 1000000 then some (D.int (i * j)) else none) = _
  rw [if_pos (by omega)]
theorem div_ii {S : Sto} {i j : Int} (h0 : 0 < j) (h : Sm j) : gDiv S (.int i) (.int j) = some (.int (i / j)) := by
  have a := h.lg
  show (if 0 < j ∧ j.natAbs.log2 < 9000 then some (D.int (i / j)) else none) = _
  rw [if_pos ⟨h0, by omega⟩]
theorem mod_ii {S : Sto} {i j : Int} (h0 : 0 < j) : gMod S (.int i) (.int j) = some (.int (i % j)) := by
  show (if 0 < j then some (D.int (i % j)) else none) = _
  rw [if_pos h0]
theorem pow_ii {S : Sto} {i j : Int} (h : 0 ≤ j ∧ j ≤ 1000000 ∧ i.natAbs < 2 ^ 64) : gPow S (.int i) (.int j) = some (.int (i ^ j.toNat)) := by
  show (if 0 ≤ j ∧ j ≤ 1000000 ∧ i.natAbs < 2 ^ 64 then some (D.int (i ^ j.toNat)) else none) = _
  rw [if_pos h]
theorem eq_ii {S : Sto} {i j : Int} : gEq S (.int i) (.int j) = some (.bl (decide (i = j))) := rfl
theorem ne_ii {S : Sto} {i j : Int} : gNe S (.int i) (.int j) = some (.bl (!decide (i = j))) := rfl
/-! ### how the words compute -/
theorem bin_ok {g : G2} {la lb : LE} {ρ : Ev} {S S1 S2 : Sto} {x y d : D} (h1 : la ρ S = .ok x S1) (h2 : lb ρ S1 = .ok y S2) (h3 : g S2 x y = some d) : lBin g la lb ρ S = .ok d S2 := by
  unfold lBin; rw [h1, bind_ok, h2, bind_ok, h3]; rfl
theorem tru_ok {l : LE} {ρ : Ev} {S S1 : Sto} {d : D} {b : Bool} (h1 : l ρ S = .ok d S1) (h2 : truth S1 d = some b) : tTru l ρ S = .ok b S1 := by
  unfold tTru; rw [h1, bind_ok, h2]; rfl
theorem acons_ok {l : LE} {t : LA} {ρ : Ev} {S S1 S2 : Sto} {d : D} {ds : List D} (h1 : l ρ S = .ok d S1) (h2 : t ρ S1 = .ok ds S2) : aCons l t ρ S = .ok (d :: ds) S2 := by
  unfold aCons; rw [h1, bind_ok, h2]; rfl
theorem callb_ok {g : GC} {t : LA} {ρ : Ev} {S S1 : Sto} {d : D} {ds : List D} (h1 : t ρ S = .ok ds S1) (h2 : g S1 ds = some d) : lCallB g t ρ S = .ok d S1 := by
  unfold lCallB; rw [h1, bind_ok, h2]; rfl
theorem call_ok {g : F} {n : Nat} {t : LA} {ρ : Ev} {S S1 : Sto} {ds dd : List D} {r : R D} (h1 : t ρ S = .ok ds S1) (h2 : ds.length + dd.length = n) (h3 : g (ds ++ dd) S1 = r) : lCall n g dd t ρ S = r := by
  unfold lCall; rw [h1, bind_ok, if_pos h2, h3]
theorem tup_ok {t : LA} {ρ : Ev} {S S1 : Sto} {ds : List D} (h1 : t ρ S = .ok ds S1) (h : ds.length ≤ 1000) : lTup t ρ S = .ok (.tup ds) S1 := by
  unfold lTup; rw [h1, bind_ok, if_pos (Nat.le_trans h (by decide))]
theorem lst_ok {t : LA} {ρ : Ev} {S S1 : Sto} {ds : List D} (h1 : t ρ S = .ok ds S1) (h : ds.length ≤ 1000) : lLst t ρ S = .ok (.lst ds) S1 := by
  unfold lLst; rw [h1, bind_ok, if_pos (Nat.le_trans h (by decide))]
theorem lstN_ok {t : LA} {ρ : Ev} {S S1 : Sto} {ds : List D} (h1 : t ρ S = .ok ds S1) (h : ds.length ≤ 1000) : lLstN t ρ S = .ok (.ref S1.length) (S1 ++ [.lst ds]) := by
  unfold lLstN; rw [h1, bind_ok, if_pos (Nat.le_trans h (by decide))]
theorem fld_ok {C : Addr} {f : Str} {l : LE} {ρ : Ev} {S S1 : Sto} {d e : D} (h1 : l ρ S = .ok d S1) (h2 : gFld C f S1 d = some e) : lFld C f l ρ S = .ok e S1 := by
  unfold lFld; rw [h1, bind_ok, h2]; rfl
theorem set_ok {i : Nat} {l : LE} {ρ : Ev} {S S1 : Sto} {d : D} (h : l ρ S = .ok d S1) : lSet i l ρ S = .ok (.nx (ρ.set i (some d))) S1 := by
  unfold lSet; rw [h]; rfl
theorem ret_ok {l : LE} {ρ : Ev} {S S1 : Sto} {d : D} (h : l ρ S = .ok d S1) : lRet l ρ S = .ok (.rt d) S1 := by
  unfold lRet; rw [h]; rfl
theorem expr_ok {l : LE} {ρ : Ev} {S S1 : Sto} {d : D} (h : l ρ S = .ok d S1) : lExpr l ρ S = .ok (.nx ρ) S1 := by
  unfold lExpr; rw [h]; rfl
theorem seq_nx {l1 l2 : LS} {ρ ρ' : Ev} {S S1 : Sto} {r : R Fl} (h : l1 ρ S = .ok (.nx ρ') S1) (h2 : l2 ρ' S1 = r) : lSeq l1 l2 ρ S = r := by
  unfold lSeq; rw [h, bind_ok]; exact h2
theorem seq_rt {l1 l2 : LS} {ρ : Ev} {S S1 : Sto} {d : D} (h : l1 ρ S = .ok (.rt d) S1) : lSeq l1 l2 ρ S = .ok (.rt d) S1 := by
  unfold lSeq; rw [h, bind_ok]; rfl
theorem if_tt {tc : LT} {l1 l2 : LS} {ρ : Ev} {S S1 : Sto} {r : R Fl} (h : tc ρ S = .ok true S1) (h2 : l1 ρ S1 = r) : lIfS tc l1 l2 ρ S = r := by
  unfold lIfS; rw [h]; exact h2
theorem if_ff {tc : LT} {l1 l2 : LS} {ρ : Ev} {S S1 : Sto} {r : R Fl} (h : tc ρ S = .ok false S1) (h2 : l2 ρ S1 = r) : lIfS tc l1 l2 ρ S = r := by
  unfold lIfS; rw [h]; exact h2
theorem stS_ok {g : Sto → D → D → D → Option Sto} {lo li le : LE} {ρ : Ev} {S S1 S2 S3 S4 : Sto} {d r k : D} (h1 : le ρ S = .ok d S1) (h2 : lo ρ S1 = .ok r S2) (h3 : li ρ S2 = .ok k S3) (h4 : g S3 r k d = some S4) : lStS g lo li le ρ S = .ok (.nx ρ) S4 := by
  unfold lStS; rw [h1]; show liftX ρ (lo ρ S1) _ = _; rw [h2]; show liftX ρ (li ρ S2) _ = _; rw [h3]; show liftS _ ρ = _; rw [h4]; rfl
theorem stF_ok {C : Addr} {f : Str} {lo le : LE} {ρ : Ev} {S S1 S2 S3 : Sto} {d r : D} (h1 : le ρ S = .ok d S1) (h2 : lo ρ S1 = .ok r S2) (h3 : stFld C f S2 r d = some S3) : lStF C f lo le ρ S = .ok (.nx ρ) S3 := by
  unfold lStF; rw [h1]; show liftX ρ (lo ρ S1) _ = _; rw [h2]; show liftS _ ρ = _; rw [h3]; rfl
theorem bm_ok {T : String} {g : GM} {lo : LE} {t : LA} {ρ : Ev} {S S1 S2 S3 : Sto} {d e : D} {ds : List D} (h1 : lo ρ S = .ok d S1) (h2 : isTy T S1 d = true) (h3 : t ρ S1 = .ok ds S2) (h4 : g S2 d ds = some (e, S3)) : lBM T g lo t ρ S = .ok e S3 := by
  unfold lBM; rw [h1, bind_ok, if_pos h2, h3, bind_ok, h4]; rfl
theorem meth_ok {C : Addr} {mn : Str} {n : Nat} {g : F} {lo : LE} {t : LA} {ρ : Ev} {S S1 S2 : Sto} {d : D} {ds dd : List D} {r : R D} (h1 : lo ρ S = .ok d S1) (h2 : recv C mn S1 d = true) (h3 : t ρ S1 = .ok ds S2) (h4 : (ds.length + dd.length) + 1 = n) (h5 : g (d :: (ds ++ dd)) S2 = r) : lMeth C mn n g dd lo t ρ S = r := by
  unfold lMeth; rw [h1, bind_ok, if_pos h2, h3, bind_ok, if_pos h4, h5]
theorem body_rt {n : Nat} {lb : LS} {ds : List D} {S S' : Sto} {d : D} (h : lb (ds.map some ++ List.replicate (n - ds.length) none) S = .ok (.rt d) S') : bodyF n lb ds S = .ok d S' := by
  unfold bodyF; rw [h]; rfl
theorem body_nx {n : Nat} {lb : LS} {ds : List D} {ρ : Ev} {S S' : Sto} (h : lb (ds.map some ++ List.replicate (n - ds.length) none) S = .ok (.nx ρ) S') : bodyF n lb ds S = .ok .non S' := by
  unfold bodyF; rw [h]; rfl
theorem and_tt {ta tb : LT} {ρ : Ev} {S S1 : Sto} {r : R Bool} (h : ta ρ S = .ok true S1) (h2 : tb ρ S1 = r) : tAnd ta tb ρ S = r := by
  unfold tAnd; rw [h, bind_ok, if_pos rfl]; exact h2
theorem or_tt {ta tb : LT} {ρ : Ev} {S S1 : Sto} (h : ta ρ S = .ok true S1) : tOr ta tb ρ S = .ok true S1 := by
  unfold tOr; rw [h, bind_ok]; rfl
theorem or_ff {ta tb : LT} {ρ : Ev} {S S1 : Sto} {r : R Bool} (h : ta ρ S = .ok false S1) (h2 : tb ρ S1 = r) : tOr ta tb ρ S = r := by
  unfold tOr; rw [h, bind_ok]; exact h2
theorem not_ok {ta : LT} {ρ : Ev} {S S1 : Sto} {b : Bool} (h : ta ρ S = .ok b S1) : tNot ta ρ S = .ok (!b) S1 := by
  unfold tNot; rw [h, bind_ok]
theorem for_go {ρ0 ρ ρ1 ρ' : Ev} {chk : Sto → Prop} {g : GT} {lb : LS} {d : D} {ds : List D} {S S1 : Sto} {r : R Fl} (hc : chk S) (hg : g d ρ = some ρ1) (h : lb ρ1 S = .ok (.nx ρ') S1) (h2 : forG ρ0 chk g lb ds (wk ρ0 ρ') S1 = r) : forG ρ0 chk g lb (d :: ds) ρ S = r := by
  unfold forG; rw [if_pos hc, hg]; show (lb ρ1 S).bind _ = _; rw [h, bind_ok]; exact h2
theorem for_end {ρ0 ρ : Ev} {chk : Sto → Prop} {g : GT} {lb : LS} {S : Sto} (hc : chk S) : forG ρ0 chk g lb [] ρ S = .ok (.nx ρ) S := by
  unfold forG; rw [if_pos hc]
theorem comp_end {ρ0 : Ev} {chk : Sto → Prop} {g : GT} {tt : LT} {te : LE} {S : Sto} (hc : chk S) : compG chk g tt te ρ0 [] S = .ok [] S := by
  unfold compG; rw [if_pos hc]
end MP

namespace MP
open PySem PySem.Spec PyProof.Rows L2
/-! ### more of how the words compute -/
theorem tru_b {l : LE} {ρ : Ev} {S S1 : Sto} {b b' : Bool} (h : l ρ S = .ok (.bl b) S1) (e : b = b') : tTru l ρ S = .ok b' S1 := e ▸ tru_ok h rfl
theorem ix_ref {S : Sto} {j : Nat} {xs : List D} {k : Int} {d : D} (h : S[j]? = some (.lst xs)) (h2 : atI xs k = some d) : gIx S (.ref j) (.int k) = some d := by
  unfold gIx
  have e : vw S (.ref j) = .lst xs := by unfold vw; dsimp only; rw [h]
  rw [e]; exact h2
theorem sub_ok {S : Sto} {j n : Nat} {xs : List D} {k : Int} {d : D} (h : S[j]? = some (.lst xs)) (h2 : ixN xs.length k = some n) : stSeq S (.ref j) (.int k) d = some (S.set j (.lst (xs.set n d))) := by
  unfold stSeq; dsimp only; rw [h]; dsimp only; rw [h2]; rfl
theorem last_at {S : Sto} {o : O} : (S ++ [o])[S.length]? = some o := by simp
theorem for_ok {li : LI} {g : GT} {lb : LS} {ρ : Ev} {S S1 : Sto} {it : Its'} {r : R Fl} (h : li ρ S = .ok it S1) (h2 : forG ρ it.chk g lb it.items ρ S1 = r) : lFor li g lb ρ S = r := by
  unfold lFor; rw [h]; exact h2
end MP

namespace MP
open PySem PySem.Spec PyProof.Rows L2
/-! ### the law's own draws: the pot -/
def Pot (n : Int) (S : Sto) (d : D) : Prop := ∃ (j i : Nat) (own : List Int) (seed cnt : Int), d = .ref j ∧ i ≠ j ∧ S[j]? = some (.lst [.ref i, .int seed, .int cnt]) ∧ S[i]? = some (.lst (own.map D.int)) ∧ own.length ≤ 63 ∧ (∀ z ∈ own, 0 ≤ z ∧ z < 10 ^ 120) ∧ 0 ≤ seed ∧ seed < 10 ^ 30 ∧ 0 ≤ cnt ∧ cnt ≤ n
theorem Pot.mono {n n' : Int} {S : Sto} {d : D} (h : Pot n S d) (hn : n ≤ n') : Pot n' S d := by
  obtain ⟨j, i, own, seed, cnt, h1, h2, h3, h4, h5, h6, h7, h8, h9, h10⟩ := h
  exact ⟨j, i, own, seed, cnt, h1, h2, h3, h4, h5, h6, h7, h8, h9, by omega⟩
def SBegin (g : F) : Prop := ∀ (S : Sto) (ns : List Int), ns.length ≤ 63 → ∃ d S', g [.lst (ns.map D.int)] S = .ok d S' ∧ Pot 0 S' d
def STake (g : F) : Prop := ∀ (n : Int) (S : Sto) (d : D) (wd : Int), Pot n S d → n < 10 ^ 30 → 0 < wd → wd < 10 ^ 200 → ∃ v S', g [d, .int wd] S = .ok (.int v) S' ∧ 0 ≤ v ∧ v < wd ∧ Pot (n + 1) S' d
def SOf (g : F) : Prop := ∀ (n : Int) (S : Sto) (d : D) (xs : List D), Pot n S d → n < 10 ^ 30 → xs ≠ [] → xs.length ≤ 1000 → ∃ y S', y ∈ xs ∧ g [d, .lst xs] S = .ok y S' ∧ Pot (n + 1) S' d
/-- the draws begin -/
def begStep : LS := (lSeq
              (lSet 1
                (lBin gMod
                  (lBin gAdd
                    (lBin gAdd (lBin gMulI (lVar 1) (lC (D.int 1000003)))
                      (lBin gMod (lVar 4) (lBin gPow (lC (D.int 10)) (lC (D.int 30)))))
                    (lBin gMulI (lC (D.int 31)) (lVar 3)))
                  (lC (D.int 2305843009213693951))))
              (lIfS (tTru (lBin gGeI (lCallB gAbs (aCons (lVar 4) aNil)) (lBin gPow (lC (D.int 10)) (lC (D.int 18)))))
                (lExpr
                  (lBM "list" stApp (lVar 2)
                    (aCons
                      (lBin gMod (lCallB gAbs (aCons (lVar 4) aNil))
                        (lBin gMulI (lBin gPow (lC (D.int 10)) (lC (D.int 60)))
                          (lBin gPow (lC (D.int 10)) (lC (D.int 60)))))
                      aNil)))
                lNext))
def begG : GT := gtTup 2 (gtCons (gtName 3) (gtCons (gtName 4) gtNil))
/-! ### a draw -/
def tkT : LT := (MP.tAnd (tTru (lBin gNe (lBin gIx (lVar 0) (lC (D.int 0))) (lLst aNil)))
            (tTru (lBin gEq (lBin gIx (lBin gIx (lVar 0) (lC (D.int 0))) (lC (D.int 0))) (lC (D.int 0)))))
def tkB : LS := (lExpr (lBM "list" stPopAt (lBin gIx (lVar 0) (lC (D.int 0))) (aCons (lC (D.int 0)) aNil)))
theorem ix0 {n : Nat} : ixN (n + 1) 0 = some 0 := by unfold ixN; rw [if_pos (by decide), if_pos (by omega)]; rfl
theorem at0 {x : D} {xs : List D} : atI (x :: xs) 0 = some x := by unfold atI; rw [List.length_cons, ix0]; rfl
end MP

namespace MP
open PySem PySem.Spec PyProof.Rows L2
theorem for_const {chk : Sto → Prop} {g : GT} {lb : LS} {ρ0 : Ev} {S : Sto} (hc : chk S) : ∀ items : List D, (∀ d ∈ items, ∃ ρ1 ρ', g d ρ0 = some ρ1 ∧ lb ρ1 S = .ok (.nx ρ') S ∧ wk ρ0 ρ' = ρ0) → forG ρ0 chk g lb items ρ0 S = .ok (.nx ρ0) S
  | [], _ => for_end hc
  | d :: items, h => by
    obtain ⟨ρ1, ρ', h1, h2, h3⟩ := h d (by simp)
    refine for_go hc h1 h2 ?_
    rw [h3]
    exact for_const hc items fun d hd => h d (by simp [hd])
theorem iter_ok {l : LE} {ρ : Ev} {S S1 : Sto} {d : D} {it : Its'} (h : l ρ S = .ok d S1) (h2 : iterOf S1 d = some it) : lIter l ρ S = .ok it S1 := by
  unfold lIter; rw [h, bind_ok, h2]; rfl
end MP

namespace MP
open PySem PySem.Spec PyProof.Rows L2

/-! ### dicts -/
def keyOf : D → Option Key
  | .int i => some (.inl i)
  | .str s => some (.inr s)
  | _ => none
def keysOf : List D → Option (List Key)
  | [] => some []
  | x :: r => (keyOf x).bind fun k => (keysOf r).map fun ks => k :: ks
/-- a key of a dict; t: its keys are tuples -/
def kOf (t : Bool) (d : D) : Option (List Key) := match t with
  | false => (keyOf d).map fun k => [k]
  | true => match d with
    | .tup xs => keysOf xs
    | _ => none
def kD (t : Bool) (ks : List Key) : D := match t with
  | false => match ks with
    | k :: _ => keyD k
    | [] => .non
  | true => .tup (ks.map keyD)
def lookD (t : Bool) : List (D × D) → List Key → Option D
  | [], _ => none
  | (x, d) :: r, ks => if kOf t x = some ks then some d else lookD t r ks
def putDD (t : Bool) (kvs : List (D × D)) (ks : List Key) (d : D) : List (D × D) := if (lookD t kvs ks).isSome = true then kvs.map (fun q => if kOf t q.1 = some ks then (q.1, d) else q) else kvs ++ [(kD t ks, d)]
theorem keyOf_keyD (k : Key) : keyOf (keyD k) = some k := by cases k <;> rfl
theorem keysOf_map : ∀ ks : List Key, keysOf (ks.map keyD) = some ks
  | [] => rfl
  | k :: ks => by simp [keysOf, keyOf_keyD, keysOf_map ks]
theorem keyOf_inv {d : D} {k : Key} (h : keyOf d = some k) : d = keyD k := by
  cases d <;> simp only [keyOf] at h <;> cases h <;> rfl
theorem keysOf_inv : ∀ {ds : List D} {ks : List Key}, keysOf ds = some ks → ds = ks.map keyD
  | [], ks, h => by simp only [keysOf] at h; cases h; rfl
  | x :: r, ks, h => by
    simp only [keysOf] at h
    cases q : keyOf x with
    | none => rw [q] at h; cases h
    | some k =>
      rw [q] at h
      cases q2 : keysOf r with
      | none => rw [q2] at h; cases h
      | some ks' =>
        rw [q2] at h
        cases h
        rw [keyOf_inv q, keysOf_inv q2]
        rfl
section
variable {K : PySem.W.Frag} {m : List Addr} {H : Hp}
theorem VR.key {v : V} {d : D} {k : Key} (r : VR K m H v d) (h : keyOf d = some k) : v = kV k := by
  have e := keyOf_inv h
  subst e
  cases k with
  | inl i => cases r; rfl
  | inr s => cases r; rfl
theorem VRs.keys : ∀ {vs : List V} {ks : List Key}, VRs K m H vs (ks.map keyD) → vs = ks.map kV
  | _, [], .nil => rfl
  | _, k :: ks, .cons h r => by rw [h.key (keyOf_keyD k), r.keys]; rfl
theorem kf1 {k k' : Key} : kOf false (keyD k') = some [k] ↔ k' = k := by
  show (keyOf (keyD k')).map (fun k => [k]) = some [k] ↔ _
  rw [keyOf_keyD]
  simp
theorem kf2 {k k' : List Key} : kOf true (.tup (k'.map keyD)) = some k ↔ k' = k := by
  show keysOf (k'.map keyD) = some k ↔ _
  rw [keysOf_map]
  simp
theorem VDk.look {vs : List (Key × V)} {ds : List (D × D)} (r : VDk K m H vs ds) (k : Key) : (∀ d, lookD false ds [k] = some d → ∃ v, valV vs k = some v ∧ VR K m H v d) ∧ (lookD false ds [k] = none → valV vs k = none) := by
  induction vs generalizing ds with
  | nil => cases r; exact ⟨fun d h => by simp [lookD] at h, fun _ => rfl⟩
  | cons p vs ih =>
    cases r with
    | @cons k' v d vs ds h r =>
      simp only [lookD]
      by_cases e : k' = k
      · rw [if_pos (kf1.mpr e), valV_pos (p := (k', v)) e]
        exact ⟨fun d' z => by cases z; exact ⟨v, rfl, h⟩, fun z => by cases z⟩
      · rw [if_neg (fun z => e (kf1.mp z)), valV_neg (p := (k', v)) e]
        exact ih r
theorem VDt.look {vs : List (List Key × V)} {ds : List (D × D)} (r : VDt K m H vs ds) (k : List Key) : (∀ d, lookD true ds k = some d → ∃ v, valV vs k = some v ∧ VR K m H v d) ∧ (lookD true ds k = none → valV vs k = none) := by
  induction vs generalizing ds with
  | nil => cases r; exact ⟨fun d h => by simp [lookD] at h, fun _ => rfl⟩
  | cons p vs ih =>
    cases r with
    | @cons k' v d vs ds h r =>
      simp only [lookD]
      by_cases e : k' = k
      · rw [if_pos (kf2.mpr e), valV_pos (p := (k', v)) e]
        exact ⟨fun d' z => by cases z; exact ⟨v, rfl, h⟩, fun z => by cases z⟩
      · rw [if_neg (fun z => e (kf2.mp z)), valV_neg (p := (k', v)) e]
        exact ih r
theorem VDk.some_iff {vs : List (Key × V)} {ds : List (D × D)} (r : VDk K m H vs ds) (k : Key) : (lookD false ds [k]).isSome = (valV vs k).isSome := by
  obtain ⟨h1, h2⟩ := r.look k
  cases q : lookD false ds [k] with
  | none => rw [h2 q]; rfl
  | some d => obtain ⟨v, e, _⟩ := h1 d q; rw [e]; rfl
theorem VDt.some_iff {vs : List (List Key × V)} {ds : List (D × D)} (r : VDt K m H vs ds) (k : List Key) : (lookD true ds k).isSome = (valV vs k).isSome := by
  obtain ⟨h1, h2⟩ := r.look k
  cases q : lookD true ds k with
  | none => rw [h2 q]; rfl
  | some d => obtain ⟨v, e, _⟩ := h1 d q; rw [e]; rfl
theorem VDk.mapP {v : V} {d : D} (k : Key) (h : VR K m H v d) : ∀ {vs : List (Key × V)} {ds : List (D × D)}, VDk K m H vs ds → VDk K m H (vs.map fun kv => if kv.1 = k then (kv.1, v) else kv) (ds.map fun q => if kOf false q.1 = some [k] then (q.1, d) else q)
  | _, _, .nil => .nil
  | _, _, @VDk.cons _ _ _ k' w e vs ds h' r => by
    simp only [List.map_cons]
    by_cases z : k' = k
    · rw [if_pos z, if_pos (kf1.mpr z)]; exact .cons h (r.mapP k h)
    · rw [if_neg z, if_neg (fun y => z (kf1.mp y))]; exact .cons h' (r.mapP k h)
theorem VDt.mapP {v : V} {d : D} (k : List Key) (h : VR K m H v d) : ∀ {vs : List (List Key × V)} {ds : List (D × D)}, VDt K m H vs ds → VDt K m H (vs.map fun kv => if kv.1 = k then (kv.1, v) else kv) (ds.map fun q => if kOf true q.1 = some k then (q.1, d) else q)
  | _, _, .nil => .nil
  | _, _, @VDt.cons _ _ _ k' w e vs ds h' r => by
    simp only [List.map_cons]
    by_cases z : k' = k
    · rw [if_pos z, if_pos (kf2.mpr z)]; exact .cons h (r.mapP k h)
    · rw [if_neg z, if_neg (fun y => z (kf2.mp y))]; exact .cons h' (r.mapP k h)
theorem VDk.snoc {v : V} {d : D} (k : Key) (h : VR K m H v d) : ∀ {vs : List (Key × V)} {ds : List (D × D)}, VDk K m H vs ds → VDk K m H (vs ++ [(k, v)]) (ds ++ [(keyD k, d)])
  | _, _, .nil => .cons h .nil
  | _, _, .cons h' r => .cons h' (r.snoc k h)
theorem VDt.snoc {v : V} {d : D} (k : List Key) (h : VR K m H v d) : ∀ {vs : List (List Key × V)} {ds : List (D × D)}, VDt K m H vs ds → VDt K m H (vs ++ [(k, v)]) (ds ++ [(.tup (k.map keyD), d)])
  | _, _, .nil => .cons h .nil
  | _, _, .cons h' r => .cons h' (r.snoc k h)
theorem VDk.put {v : V} {d : D} (k : Key) (h : VR K m H v d) {vs : List (Key × V)} {ds : List (D × D)} (r : VDk K m H vs ds) : VDk K m H (putK vs k v) (putDD false ds [k] d) := by
  unfold putK putDD
  rw [r.some_iff k, valV_any]
  by_cases z : (valV vs k).isSome = true
  · rw [if_pos z, if_pos z]; exact r.mapP k h
  · rw [if_neg z, if_neg z]; exact r.snoc k h
theorem VDt.put {v : V} {d : D} (k : List Key) (h : VR K m H v d) {vs : List (List Key × V)} {ds : List (D × D)} (r : VDt K m H vs ds) : VDt K m H (putK vs k v) (putDD true ds k d) := by
  unfold putK putDD
  rw [r.some_iff k, valV_any]
  by_cases z : (valV vs k).isSome = true
  · rw [if_pos z, if_pos z]; exact r.mapP k h
  · rw [if_neg z, if_neg z]; exact r.snoc k h
theorem VDk.length {vs : List (Key × V)} {ds : List (D × D)} : VDk K m H vs ds → vs.length = ds.length
  | .nil => rfl
  | .cons _ r => by simp [r.length]
theorem VDt.length {vs : List (List Key × V)} {ds : List (D × D)} : VDt K m H vs ds → vs.length = ds.length
  | .nil => rfl
  | .cons _ r => by simp [r.length]
variable {S : Sto}
/-- a dict, of the store or not -/
theorem vw_dct (x : SR K m H S) {v : V} {d : D} {t : Bool} {kvs : List (D × D)} (r : VR K m H v d) (e : vw S d = .dct t kvs) : ∃ a, v = .ref a ∧ ((t = false ∧ ∃ vs, H a = some (.dK vs) ∧ VDk K m H vs kvs) ∨ (t = true ∧ ∃ vs, H a = some (.dT vs) ∧ VDt K m H vs kvs)) := by
  cases r with
  | @ref i a h =>
    dsimp only [vw] at e
    cases q : S[i]? with
    | none => rw [q] at e; cases e
    | some ob =>
      rw [q] at e
      cases x.at_ i a ob h q with
      | lst _ _ => cases e
      | ins _ _ => cases e
      | dct h r => cases e; exact ⟨a, rfl, .inl ⟨rfl, _, h, r⟩⟩
      | dctT h r => cases e; exact ⟨a, rfl, .inr ⟨rfl, _, h, r⟩⟩
  | dct n h r => cases e; exact ⟨_, rfl, .inl ⟨rfl, _, h, r⟩⟩
  | dctT n h r => cases e; exact ⟨_, rfl, .inr ⟨rfl, _, h, r⟩⟩
  | _ => cases e
end
section
variable {X : Cx}
def gDix : G2 := fun S x y => match vw S x with
  | .dct t kvs => (kOf t y).bind fun ks => lookD t kvs ks
  | _ => none
def gDin : G2 := fun S y x => match vw S x with
  | .dct t kvs => (kOf t y).map fun ks => .bl (lookD t kvs ks).isSome
  | _ => none
def gDnotin : G2 := fun S y x => match vw S x with
  | .dct t kvs => (kOf t y).map fun ks => .bl (!(lookD t kvs ks).isSome)
  | _ => none
def stDct (S : Sto) (r i d : D) : Option Sto := match r with
  | .ref j => match S[j]? with
    | some (.dct t kvs) => if kvs.length < sizeLine then (kOf t i).map fun ks => S.set j (.dct t (putDD t kvs ks d)) else none
    | _ => none
  | _ => none
/-- {} -/
def lDctN (t : Bool) : LE := fun _ S => .ok (.ref S.length) (S ++ [.dct t []])
def lDct (t : Bool) : LE := fun _ S => .ok (.dct t []) S
theorem pel_dctK {pos : Pos} : PEL X (.Dict [] [] pos) (lDct false) := .of_pe pe_dnewK fun σ H m ρ S x er hp p hn => ⟨_, _, rfl, qv_new x hn (.dct (x.nin hn) upd_same .nil)⟩
theorem pel_dctT {pos : Pos} : PEL X (.Dict [] [] pos) (lDct true) := .of_pe pe_dnewT fun σ H m ρ S x er hp p hn => ⟨_, _, rfl, qv_new x hn (.dctT (x.nin hn) upd_same .nil)⟩
end
end MP

namespace MP
open PySem PySem.Spec PyProof.Rows L2

/-! ### sorted -/
def encD (d : D) : PyData := (toPD d).getD .none
def leD (a b : D) : Bool := PySem.W.dataLe false encD a b
def headT : PyData → Bool
  | .tuple (_ :: _) => true
  | _ => false
def plainT : PyData → Bool
  | .none => false
  | .tuple _ => false
  | _ => true
def srtOk (xs : List D) : Bool := xs.all (fun x => (toPD x).isSome) && (xs.all fun x => xs.all fun y => PySem.W.alike (encD x) (encD y)) && (xs.all (fun x => headT (encD x)) || xs.all fun x => plainT (encD x)) && xs.all (fun x => decide ((encD x).depth ≤ 50)) && decide (xs.length ≤ sizeLine)
theorem srtOk_inv {xs : List D} (h : srtOk xs = true) : (∀ x ∈ xs, toPD x = some (encD x)) ∧ PySem.W.AllAlike (xs.map encD) ∧ PySem.W.Sortable (xs.map encD) ∧ (∀ x ∈ xs, (encD x).depth ≤ 50) ∧ xs.length ≤ sizeLine := by
  unfold srtOk at h
  simp only [Bool.and_eq_true, List.all_eq_true, decide_eq_true_eq, Bool.or_eq_true] at h
  obtain ⟨⟨⟨⟨h1, h2⟩, h3⟩, h4⟩, h5⟩ := h
  refine ⟨fun x hx => ?_, fun d hd d' hd' => ?_, ?_, h4, h5⟩
  · unfold encD
    cases q : toPD x with
    | none => have := h1 x hx; rw [q] at this; cases this
    | some p => rfl
  · obtain ⟨x, hx, rfl⟩ := List.mem_map.mp hd
    obtain ⟨y, hy, rfl⟩ := List.mem_map.mp hd'
    exact h2 x hx y hy
  · rcases h3 with h3 | h3
    · refine .inl fun d hd => ?_
      obtain ⟨x, hx, rfl⟩ := List.mem_map.mp hd
      have := h3 x hx
      unfold headT at this
      split at this
      · exact ⟨_, _, ‹_›⟩
      · cases this
    · refine .inr fun d hd => ?_
      obtain ⟨x, hx, rfl⟩ := List.mem_map.mp hd
      have := h3 x hx
      refine ⟨fun z => ?_, fun ys z => ?_⟩
      · rw [z] at this; cases this
      · rw [z] at this; cases this
def IsV (K : PySem.W.Frag) (m : List Addr) (H : Hp) (v : Value) (d : D) : Prop := ∃ x, RelV x v ∧ VR K m H x d
theorem each_isV {K : PySem.W.Frag} {m : List Addr} {H : Hp} : ∀ {vs : List V} {us : List Value} {ds : List D}, Vals vs us → VRs K m H vs ds → PySem.W.EachIs (IsV K m H) us ds
  | _, _, _, .nil, .nil => .nil
  | _, _, _, .cons r t, .cons w z => .cons ⟨_, r, w⟩ (each_isV t z)
theorem of_each {K : PySem.W.Frag} {m : List Addr} {H : Hp} : ∀ {us : List Value} {ds : List D}, PySem.W.EachIs (IsV K m H) us ds → ∃ vs, Vals vs us ∧ VRs K m H vs ds
  | _, _, .nil => ⟨[], .nil, .nil⟩
  | _, _, .cons ⟨x, r, w⟩ t => by
    obtain ⟨vs, h1, h2⟩ := of_each t
    exact ⟨x :: vs, .cons r h1, .cons w h2⟩
section
variable {X : Cx} {pins : List (Addr × Obj)} {σ : L2.St} {H : Hp} {s : Shared} {m : List Addr} {S : Sto}
theorem each_reads (I : Inv X pins σ H s) {vs : List V} {us : List Value} {ds : List D} (r : Vals vs us) (w : VRs X.K m H vs ds) (h : ∀ x ∈ ds, toPD x = some (encD x)) : PySem.W.EachIs (fun v b => ∃ as, Reads s.heap v (encD b) as) us ds := by
  induction r generalizing ds with
  | nil => cases w; exact .nil
  | cons r t ih =>
    cases w with
    | cons w z => exact .cons (Dp.reads I _ _ _ (w.dp (h _ (by simp))) r) (ih z fun x hx => h x (by simp [hx]))
def gSorted : GC := fun S ds => match ds with
  | [d] => match vw S d with
    | .lst xs => if srtOk xs = true then some (.lst (xs.mergeSort leD)) else none
    | _ => none
  | _ => none
theorem cl_sorted (hu : X.A.units + 64 < cLine) : CallL X (.builtin "sorted") gSorted := ⟨fun pins s σ H m S xs ds d us I q r rv e => by
  unfold gSorted at e
  split at e
  · split at e
    · rename_i l qv
      split at e
      · rename_i hk
        cases e
        obtain ⟨h1, h2, h3, h4, h5⟩ := srtOk_inv hk
        obtain ⟨v, rfl, w⟩ := r.one
        obtain ⟨a, vs, rfl, hs, rr⟩ := vw_lst q w qv
        obtain ⟨its, rv2, hl, hz⟩ := I.list hs
        rw [Vals.ref1 rv]
        refine PySem.W.sorted_data (R := IsV X.K m H) hl.isList (each_isV rv2 rr) (each_reads I rv2 rr h1) h2 h3 h5 (fun b hb => by have := h4 b hb; omega) fun out ho hE => ?_
        obtain ⟨ws, k1, k2⟩ := of_each hE
        obtain ⟨ep, he'⟩ := PyProof.Rows.sortedAll_at s.heap its (List.toArray out)
        have hn : H (s.heap.objs.size + 1) = none := I.hok.fresh (Nat.le_succ _)
        refine ⟨.ref (s.heap.objs.size + 1), upd H (s.heap.objs.size + 1) (.lst ws), m, I.laid (t' := s.toks) (fun _ _ => PyProof.Rows.sortedAll_old) (Nat.le_succ _) ⟨by rw [k1.length, ho]; exact h5, out, ep, k1, he'⟩, rfl, Ext.fresh hn, q.fresh hn, ?_⟩
        exact vr_newLst q hn k2
      · cases e
    · cases e
  · cases e⟩
end
end MP

namespace MP
open PySem PySem.Spec PyProof.Rows L2

/-! ### the keys of a dict -/
section
variable {X : Cx} {pins : List (Addr × Obj)} {σ : L2.St} {H : Hp} {s : Shared} {m : List Addr} {S : Sto}
theorem VDk.keysR {K : PySem.W.Frag} {m : List Addr} {H : Hp} : ∀ {vs : List (Key × V)} {ds : List (D × D)}, VDk K m H vs ds → VRs K m H (vs.map fun p => kV p.1) (ds.map (·.1))
  | _, _, .nil => .nil
  | _, _, @VDk.cons _ _ _ k v d vs ds h r => by
    refine .cons ?_ r.keysR
    cases k with
    | inl i => exact .int i
    | inr s => exact .str s
theorem VRs.kVs {K : PySem.W.Frag} {m : List Addr} {H : Hp} : ∀ ks : List Key, VRs K m H (ks.map kV) (ks.map keyD)
  | [] => .nil
  | .inl i :: ks => .cons (.int i) (VRs.kVs ks)
  | .inr s :: ks => .cons (.str s) (VRs.kVs ks)
theorem VDt.keysR {K : PySem.W.Frag} {m : List Addr} {H : Hp} : ∀ {vs : List (List Key × V)} {ds : List (D × D)} {bs : List Addr}, VDt K m H vs ds → IsKeys H vs bs → VRs K m H (bs.map V.ref) (ds.map (·.1))
  | _, _, _, .nil, .nil => .nil
  | _, _, _, @VDt.cons _ _ _ k v d vs ds h r, .cons hb t => .cons (.tup hb (VRs.kVs k)) (r.keysR t)
theorem dict_src (I : Inv X pins σ H s) (x : SR X.K m H S) {v : V} {d : D} {t : Bool} {kvs : List (D × D)} (r : VR X.K m H v d) (e : vw S d = .dct t kvs) :
    ∃ (a : Addr) (P : Nat → Value → Prop) (OK : Heap → Prop), v = .ref a ∧ PySem.W.KdlSrc X.prog X.w "dict" a a kvs.length P OK ∧ OK s.heap ∧ kvs.length ≤ sizeLine ∧
      ∀ acc, ItemsOf P acc kvs.length → ∃ ks, Vals ks acc.toList ∧ VRs X.K m H ks (kvs.map (·.1)) := by
  obtain ⟨a, rfl, h⟩ := vw_dct x r e
  rcases h with ⟨rfl, vs, h, rr⟩ | ⟨rfl, vs, h, rr⟩
  · obtain ⟨z, lo, us, rk, hd⟩ := (show ObjOk X.prog X.w H s.heap a (.dK vs) from I.hok a _ h)
    obtain ⟨ep, hat⟩ := hd.dictAt
    have hl : vs.length = us.length := Paired.length rk
    have hl2 := rr.length
    have src := PySem.W.kdl_dict (knd := mixKind X.prog X.w) (kvs := us) (ep := ep) lo
    rw [← hl, hl2] at src
    refine ⟨a, _, _, rfl, src, hat, by rw [← hl2]; exact z, fun acc it => ⟨_, ?_, rr.keysR⟩⟩
    have e1 : (vs.map fun p => kV p.1) = us.map fun p => kV p.1 := by
      have := KV.keys rk
      have e2 : (vs.map fun p => kV p.1) = (vs.map (·.1)).map kV := by rw [List.map_map]; rfl
      have e3 : (us.map fun p => kV p.1) = (us.map (·.1)).map kV := by rw [List.map_map]; rfl
      rw [e2, e3, this]
    rw [e1]
    exact keys_at (by rw [Array.length_toList, it.1, ← hl2, hl]) fun j w hw => it.2 j w (by rw [← Array.getElem?_toList]; exact hw)
  · obtain ⟨z, hs, ks, pr, o, es, ep, ho, hx, hdt, he, hn⟩ := (show ObjOk X.prog X.w H s.heap a (.dT vs) from I.hok a _ h)
    have l1 : es.size = ks.length := size_of_entries he
    have l2 : vs.length = ks.length := Paired.length pr
    have l3 := rr.length
    have src := kdl_raw (prog := X.prog) (w := X.w) hs hx hdt
    rw [l1, ← l2, l3] at src
    refine ⟨a, _, _, rfl, src, ho, by rw [← l3]; exact z, fun acc it => ⟨_, ?_, rr.keysR (isKeys_of pr)⟩⟩
    have ea : acc.toList = ks.map fun x => Value.ref x.2.1 := by
      have hl : acc.toList.length = ks.length := by rw [Array.length_toList, it.1, ← l3, l2]
      apply List.ext_getElem?
      intro j
      rw [List.getElem?_map]
      cases hj : acc.toList[j]? with
      | none =>
        have h1 := List.getElem?_eq_none_iff.mp hj
        rw [List.getElem?_eq_none (by omega)]
        all_goals rfl
      | some v =>
        obtain ⟨en, hen, hv⟩ := it.2 j v (by rw [← Array.getElem?_toList]; exact hj)
        have qe := entry_at he j
        rw [hen] at qe
        cases hb : ks[j]? with
        | none =>
          rw [hb] at qe
          exact nomatch (show some en = none from qe)
        | some b =>
          rw [hb] at qe
          have e2 : en = entryOfKey (tupleKind (mixKind X.prog X.w)) b := Option.some.inj qe
          rw [hv, e2]
          all_goals rfl
    have eb : acc.toList = (ks.map fun x => x.2.1).map Value.ref := by rw [ea, List.map_map]; all_goals rfl
    rw [eb]
    exact vals_refs _
/-- list(d) -/
def gListD : GC := fun S ds => match ds with
  | [d] => match vw S d with
    | .dct _ kvs => some (.lst (kvs.map (·.1)))
    | _ => none
  | _ => none
/-- sorted(d) -/
def gSortedD : GC := fun S ds => match ds with
  | [d] => match vw S d with
    | .dct _ kvs => if srtOk (kvs.map (·.1)) = true then some (.lst ((kvs.map (·.1)).mergeSort leD)) else none
    | _ => none
  | _ => none
end
end MP

namespace MP
open PySem PySem.Spec PyProof.Rows L2
open AutoSeq1 (wpAny_loadPart')
section
variable {prog : Program} {w : World} {A : Around} {E : Value → Shared → Prop} {s : Shared}
theorem new_tuple_src {A' : Around} {R : Result → Shared → Prop} {l : Addr} {T : String} {n : Nat} {P : Nat → Value → Prop} {OK : Heap → Prop} (K : PySem.W.KdlSrc prog w T l l n P OK) (hh : A.handled = none) (hok : OK s.heap) (hn : n ≤ sizeLine) (hne : T ≠ "tuple") (hT : s.TypeIs (.ref l) T)
    (h : ∀ (h' : Heap) (tk : Nat) (acc : Array Value), (∀ b o, s.heap.get? b = some o → h'.get? b = some o) → ItemsOf P acc n → R (.ok (.ret (.ref h'.objs.size))) { s with heap := h'.push { cls := .type "tuple", data := .seq acc }, toks := tk }) :
    wpAny (model prog w) A (Builtin.«tuple.__new__» ⟨[.type "tuple", .ref l], []⟩) (fun fin s' => match fin with
      | .done f => R (.ok f) s'
      | .again c' => c'.quiet = true ∧ codeAny (model prog w) A' c' R s') (fun e s' => R (.error e) s') s := by
  obtain ⟨hp, g, d, tk, os⟩ := s
  have hsub := sub_tuple_self
  have hinit := init_tuple_lookup
  have hmh := madeHere_tuple
  have hc : ∀ {Q : List Value → Shared → Prop} {E' : Value → Shared → Prop}, (∀ (h' : Heap) (tk' : Nat) (acc : Array Value), (∀ b o, hp.get? b = some o → h'.get? b = some o) → ItemsOf P acc n → Q acc.toList ⟨h', g, d, tk', os⟩) → wpAny (model prog w) A (collect (.ref l)) Q E' ⟨hp, g, d, tk, os⟩ := fun hq => PySem.W.kdu_collect K hh hok hn fun h' tk' acc hk hacc => hq h' tk' acc hk hacc
  wp_walk using wpAny_typeOf hT, hc
  intro h' tk' acc hk it
  refine wpAny_bind (wpAny_pure ?_)
  show wpAny _ _ (Builtin.Tuple.tupleExact acc.toList.toArray >>= fun v => ret v) _ _ _
  unfold Builtin.Tuple.tupleExact
  refine wpAny_bind (wpAny_newObj_type ?_ (by show acc.toList.toArray.size ≤ sizeLine; rw [Array.toArray_toList, it.1]; exact hn))
  refine wpAny_pure ?_
  rw [Array.toArray_toList]
  exact h h' tk' acc hk it
theorem call_tuple_src {l : Addr} {T : String} {n : Nat} {P : Nat → Value → Prop} {OK : Heap → Prop} {Q : Value → Shared → Prop} (K : PySem.W.KdlSrc prog w T l l n P OK) (hh : A.handled = none) (hok : OK s.heap) (hn : n ≤ sizeLine) (hne : T ≠ "tuple")
    (h : ∀ (h' : Heap) (tk : Nat) (acc : Array Value), (∀ b o, s.heap.get? b = some o → h'.get? b = some o) → ItemsOf P acc n → Q (.ref h'.objs.size) { s with heap := h'.push { cls := .type "tuple", data := .seq acc }, toks := tk }) :
    wpAny (model prog w) A (call (.type "tuple") [.ref l]) Q E s := by
  have hT : s.TypeIs (.ref l) T := K.type _ hok
  refine callType_codes (T := "tuple") (Bi := Builtin.«object.__init__») (Q₁ := fun r s₁ => s₁.TypeIs r "tuple" ∧ Q r s₁) PySem.F.called_tuple (PySem.F.typeCall_tuple_1 _) PySem.F.entry_object_init ?_ ?_
  · refine codeAny_of_tree ?_
    show wpAny _ A.in1.in1 (do checkBuiltinCall "tuple.__new__" ⟨[.type "tuple", .ref l], []⟩; again (.builtin "tuple.__new__" ⟨[.type "tuple", .ref l], []⟩)) _ _ s
    refine wpAny_bind (wpAny_of_eq (PySem.F.newCall_tuple_1 _) (wpAny_pure ⟨plainId_quiet (by decide +kernel) _, codeAny_builtin PySem.F.entry_tuple_new ?_⟩))
    rw [Around.under_plainId (by decide +kernel) _]
    exact new_tuple_src (A := A.in1.in1) (A' := A.in1) (R := wants (fun r s₁ => s₁.TypeIs r "tuple" ∧ Q r s₁) E) K hh hok hn hne hT fun h' tk acc hk it => ⟨⟨_, Heap.get?_push_size _ rfl, rfl⟩, h h' tk acc hk it⟩
  · rintro obj s₁ ⟨ht, hq⟩
    exact ⟨ht, PySem.F.args_object_init_2 _ _, object_init_meets PySem.F.called_tuple.init.lookup PySem.F.called_tuple.made (by decide) prog w A.in1 _ s₁ ⟨ht, rfl, hq⟩⟩
end
section
variable {X : Cx}
/-- tuple(d) -/
def gTupD : GC := fun S ds => match ds with
  | [d] => match vw S d with
    | .dct _ kvs => some (.tup (kvs.map (·.1)))
    | _ => none
  | _ => none
theorem cl_tupD (hc : X.calm = true) : CallL X (.type "tuple") gTupD := ⟨fun pins s σ H m S xs ds d us I q r rv e => by
  unfold gTupD at e
  split at e
  · split at e
    · rename_i t kvs qv
      cases e
      obtain ⟨v, rfl, w⟩ := r.one
      obtain ⟨a, P, OK, rfl, src, ok, hz, hk⟩ := dict_src I q w qv
      rw [Vals.ref1 rv]
      refine call_tuple_src src (I.ok.hd hc) ok hz (by decide) fun h' tk acc kp it => ?_
      obtain ⟨ks, k1, k2⟩ := hk acc it
      have I1 : Inv X pins σ H { s with heap := h', toks := tk } := I.kept kp
      have hn : H h'.objs.size = none := I1.hok.fresh (Nat.le_refl _)
      refine ⟨.ref h'.objs.size, _, m, I1.laid (t' := tk) (o := .tup ks) (fun b o e => Heap.get?_push_of_some _ e) (Nat.le_refl _) ⟨by rw [k2.length, List.length_map]; exact hz, acc.toList, k1, ?_⟩, rfl, Ext.fresh hn, q.fresh hn, vr_newTup q hn k2⟩
      have := IsTup.new h' acc
      rw [← Array.toArray_toList (xs := acc)] at this
      exact this
    · cases e
  · cases e⟩
end
end MP

/-! isinstance and fields of an exception that is a value (the two lemmas ahead: lines of HandS.ExcIs, turned to an exception with a dict) -/
namespace PySem.W
open PySem PySem.Spec PySem.Calls PyProof.Rows
section
variable {prog : Program} {w : World} {A : Around} {E : Value → Shared → Prop} {s : Shared} {K : Frag} {x D : Addr} {ox : Obj} {od : Option Obj}
theorem findObj_dataA {C : Addr} {name : Str} {a g : Value} (hc : (clsIn K C).isSome = true) (ha : findIn K (.ref C) name = some (some a)) (hg : specialIn K a "__get__" = some (some g)) (ht : takesIn K a = some true) : findObj K C od name = some (.bind g a) := by
  obtain ⟨cd, hc⟩ := Option.isSome_iff_exists.mp hc
  unfold findObj
  rw [hc, Option.bind_some, ha, Option.bind_some]
  simp [hg, ht]
theorem kin_classD {Q : Option Value → Shared → Prop} (hga : findIn K (.ref D) "__getattribute__" = some (some (.builtin "BaseException.__getattribute__"))) (hgt : findIn K (.ref D) "__getattr__" = some none) (hsub : subIn K (.ref D) (.type "BaseException") = some true)
    (hdct : hasDictIn K D = true) (ha : findIn K (.ref D) "__class__" = some (some (.builtin "object.__class__")))
    (hn : specialIn K (.builtin "object.__class__") "__get__" = some (some (.builtin "getset_descriptor.__get__"))) (htk : takesIn K (.builtin "object.__class__") = some true) (hm : mroIn K D (.type "object") = some true)
    (X : K.In s.heap) (I : InstAt s.heap x ox D od) (h : Q (some (.ref D)) { s with toks := s.toks + 1 }) : wpAny (model prog w) A (getAttr? (.ref x) "__class__") Q E s := by
  have hf : findObj K D od "__class__" = some (.bind (.builtin "getset_descriptor.__get__") (.builtin "object.__class__")) := findObj_dataA (by obtain ⟨cd, hc, _⟩ := any_some hdct; rw [hc]; rfl) ha hn htk
  obtain ⟨hp, g, d, t, os⟩ := s
  have L0 := I.type (M := model prog w)
  have L1 := looks_findIn (M := model prog w) X hga
  have L2 := looks_findIn (M := model prog w) X hgt
  have L3 := looks_find (M := model prog w) X I hf
  have sub : Looks (model prog w) hp (isInstance (.ref x) (.type "BaseException")) true := L0.andThen (looks_subIn X hsub)
  have hx0 : (false && onTheHeap (Value.builtin "BaseException.__getattribute__")) = false := rfl
  have hx2 : (Value.builtin "BaseException.__getattribute__" == Value.builtin "object.__getattribute__") = false := by decide +kernel
  have hx1 : (onTheHeap (Value.ref D) && Value.builtin "BaseException.__getattribute__" == Value.builtin "object.__getattribute__") = false := by rw [hx2]; rfl
  unfold getAttr? getAttrBy? getAttrBy
  refine wpAny_bind (wpAny_mkText (wpAny_bind (wpAny_attempt (wpAny_holding (wpAny_bind (L0.at (wpAny_bind (L1.at ?_))))))))
  show wpAny _ _ (if (onTheHeap (Value.ref D) && Value.builtin "BaseException.__getattribute__" == Value.builtin "object.__getattribute__") = true then _ else _) _ _ _
  rw [hx1, if_neg Bool.false_ne_true]
  unfold getAttrByItsOwn hookBefore
  refine wpAny_bind ?_
  rw [if_pos (show onTheHeap (Value.ref D) = true from rfl)]
  refine L2.at ?_
  refine wpAny_bind (wpAny_attempt (wpAny_holding ?_))
  unfold callGetattribute
  rw [hx0, if_neg Bool.false_ne_true]
  unfold boundAndCalled
  rw [PySem.F.excAttr_ValueError.ga.bind (.ref x)]
  refine wpAny_bind (wpAny_pure ?_)
  show wpAny _ _ (call (.builtin "BaseException.__getattribute__") [.ref x, .str "__class__" t]) _ _ _
  refine wpAny_call (codeAny_call_builtin PySem.F.excAttr_ValueError.ga.plain PySem.F.entry_bexc_ga ?_)
  refine @check_slot (model prog w) _ _ ⟨hp, g, d, t + 1, os⟩ "BaseException.__getattribute__" "BaseException" "__getattribute__" (.ref x) [.str "__class__" t] [] _ (by decide +kernel) (by decide +kernel) sub (PySem.F.args_bexc_ga (.ref x) (.str "__class__" t)) ?_
  unfold Builtin.«object.__getattribute__»
  refine wpAny_bind (wpAny_of_eq (a := ((Value.ref x : Value), [Value.str "__class__" t])) (by first | rfl | (simp only [slotArgs]; rfl)) ?_)
  refine wpAny_bind (wpAny_pure (wpAny_bind (L0.at (wpAny_bind (L3.at ?_)))))
  show wpAny _ _ (holding [Value.builtin "object.__class__"] (call (.builtin "getset_descriptor.__get__") [.builtin "object.__class__", .ref x, .ref D]) >>= ret) _ _ _
  refine wpAny_bind (wpAny_holding (wpAny_call (class_get (s := ⟨hp, g, d, t + 1, os⟩) (ox := ox) (od := od) X I hm ?_)))
  refine wpAny_pure ?_
  show wpAny _ _ (handedOut (.ref D)) _ _ _
  rw [handedOut_of (v := .ref D) rfl]
  first
    | exact wpAny_pure (wpAny_pure h)
    | exact wpAny_pure h
    | exact wpAny_pure (wpAny_bind (wpAny_pure (wpAny_pure h)))
theorem kitx_excD (hga : findIn K (.ref D) "__getattribute__" = some (some (.builtin "BaseException.__getattribute__"))) (hgt : findIn K (.ref D) "__getattr__" = some none) (hsub : subIn K (.ref D) (.type "BaseException") = some true) (hdct : hasDictIn K D = true) (ha : findIn K (.ref D) "__class__" = some (some (.builtin "object.__class__")))
    (hn : specialIn K (.builtin "object.__class__") "__get__" = some (some (.builtin "getset_descriptor.__get__"))) (htk : takesIn K (.builtin "object.__class__") = some true) (hm : mroIn K D (.type "object") = some true) :
    KitX K (.ref x) (.ref D) (fun h => InstAt h x ox D od) where
  ty := fun _ _ _ I => I.type
  it := fun _ _ X _ => by
    obtain ⟨cdD, hcD, _⟩ := any_some hdct
    unfold clsIn at hcD
    split at hcD
    · rename_i c' d' cd' sl' ho
      intro A' Q' E' s' k q
      unfold isType loadHead
      exact wpAny_bind (wpAny_loadPart (k _ _ (X _ _ ho)) (wpAny_pure q))
    · cases hcD
  ne := fun h tp dd its n sl X htp => by
    obtain ⟨cdD, hcD, _⟩ := any_some hdct
    refine Bool.eq_false_iff.mpr fun q => ?_
    have e : D = tp := Value.ref.inj (beq_iff_eq.mp q)
    subst e
    unfold clsIn at hcD
    split at hcD
    · rename_i c' d' cd' sl' ho
      have z := (X _ _ ho).symm.trans htp
      cases z
    · cases hcD
  ca := fun X I k => kin_classD hga hgt hsub hdct ha hn htk hm X I k
end
end PySem.W
namespace MP
open PySem PySem.Spec PyProof.Rows L2
section
variable {X : Cx} {pins : List (Addr × Obj)} {σ : L2.St} {H : Hp} {s : Shared} {m : List Addr} {S : Sto}
theorem exv_at {a C : Addr} {d : Option Addr} (I : Inv X pins σ H s) (h : H a = some (ExV C d a)) : ∃ (oe : Obj) (vs : Array Value), s.heap.get? a = some oe ∧ Zc (.ref C) d oe ∧ oe.data = .fields vs := by
  have x : ObjOk X.prog X.w H s.heap a (.ext fun h => ∃ (oe : Obj) (vs : Array Value), h.get? a = some oe ∧ Zc (.ref C) d oe ∧ oe.data = .fields vs) := I.hok a _ h
  exact x.1
theorem vw_exn {v : V} {d : D} {C : Addr} {gs : List (Str × D)} (r : VR X.K m H v d) (e : vw S d = .exn C gs) : VR X.K m H v (.exn C gs) := by
  cases r with
  | exn0 n h => cases e; exact .exn0 n h
  | exnD n nd h hd r => cases e; exact .exnD n nd h hd r
  | @ref i a h =>
    dsimp only [vw] at e
    cases q : S[i]? with
    | none => rw [q] at e; cases e
    | some ob => rw [q] at e; cases ob <;> cases e
  | _ => cases e
theorem exn_inst {v : V} {C : Addr} {gs : List (Str × D)} (I : Inv X pins σ H s) (r : VR X.K m H v (.exn C gs)) : ∃ a ox od, v = .ref a ∧ PySem.W.InstAt s.heap a ox C od ∧
    ∀ f d, gs.lookup f = some d → ∃ o w u, od = some o ∧ PySem.W.lookIn f o = some (some u) ∧ RelV w u ∧ VR X.K m H w d := by
  cases r with
  | @exn0 a C n h =>
    obtain ⟨oe, vs, h1, h2, h3⟩ := exv_at I h
    refine ⟨a, oe, none, rfl, ⟨h1, h2.1, by unfold PySem.W.notCls; rw [h3] <;> rfl, by rw [h2.2]; trivial⟩, fun f d q => by simp at q⟩
  | @exnD a C dd fs gs n nd h hd r =>
    obtain ⟨oe, vs, h1, h2, h3⟩ := exv_at I h
    obtain ⟨mA, hns, rel⟩ : ∃ mA, s.heap.Ns1 dd mA ∧ ∀ f, RelO (fs.lookup f) (mA f) := by
      rcases hd with hd | hd
      · exact exd_at I.hok hd
      · exact I.hok dd _ hd
    obtain ⟨o, ho, hl⟩ := lookIn_ns hns
    refine ⟨a, oe, some o, rfl, ⟨h1, h2.1, by unfold PySem.W.notCls; rw [h3] <;> rfl, by rw [h2.2]; exact ho⟩, fun f d q => ?_⟩
    obtain ⟨w, q1, q2⟩ := r.look q
    obtain ⟨u, hu, ru⟩ := RelO.some_of (v := w) (o := mA f) (by rw [← q1]; exact rel f)
    exact ⟨o, w, u, rfl, by rw [hl, hu], ru, q2⟩
variable {e : Expr} {pos : Pos} {l : LE} {Cs : List Addr} {f : Str}
/-- e.f, e an exception of one of the classes -/
def gFldE (Cs : List Addr) (f : Str) (S : Sto) (d : D) : Option D := match vw S d with
  | .exn C fs => if C ∈ Cs then fs.lookup f else none
  | _ => none
def lFldE (Cs : List Addr) (f : Str) (l : LE) : LE := fun ρ S => (l ρ S).bind fun d S1 => lift1 (gFldE Cs f S1 d) S1
theorem pel_fldE (hT : ∀ C ∈ Cs, XfC X.K C ∧ PySem.W.findIn X.K (.ref C) f = some none) (he : PEL X e l) (hb : attributeBase e f X.env (eval e X.env) = eval e X.env := by rfl) : PEL X (.Attribute e f pos) (lFldE Cs f l) := by
  refine ⟨fun pins s σ H m ρ S I x r hp => ?_⟩
  refine attr_of hb (run_seq he I x r hp fun d S1 q1 v u s1 H1 m1 I1 rv e1 x1 w1 r1 hp1 => ?_)
  obtain ⟨d', q2⟩ := lift_ok hp1
  have e0 : lFldE Cs f l ρ S = .ok d' S1 := by unfold lFldE; rw [q1, bind_ok, q2]; rfl
  rw [e0]
  unfold gFldE at q2
  split at q2
  · rename_i C gs q3
    split at q2
    · rename_i q4
      obtain ⟨T, hno⟩ := hT C q4
      obtain ⟨a, ox, od, rfl, J, k⟩ := exn_inst I1 (vw_exn w1 q3)
      obtain ⟨o, w, u', rfl, hl, ru, w2⟩ := k f d' q2
      obtain rfl : u = Value.ref a := rv
      exact HandSPX.exc_get I1.kIn J T.ga T.gg T.exC (PySem.W.findObj_own T.hdC hno rfl hl) (handed_of ru) ((vpr_of ⟨w, H1, m1, I1.tok _, ru, Ext.refl, x1, w2⟩).left e1)
    · cases q2
  · cases q2
/-- isinstance(e, c), e an exception -/
structure IsEOk (K : PySem.W.Frag) (c : Value) (tab : Addr → Option Bool) : Prop where
  one : ∀ C b, tab C = some b → PySem.W.kitOne K (.ref C) c = some b ∧ ExcC K C
def gIsE (tab : Addr → Option Bool) (S : Sto) (d : D) : Option D := match vw S d with
  | .exn C _ => (tab C).map .bl
  | _ => none
def lIsE (tab : Addr → Option Bool) (l : LE) : LE := fun ρ S => (l ρ S).bind fun d S1 => lift1 (gIsE tab S1 d) S1
theorem pel_isE {ce : Expr} {p : Pos} {cv : Value} {cw : V} {tab : Addr → Option Bool} (hg : Gl X "isinstance") (hm : X.mg "isinstance" = none) (he : PEL X e l) (hc : PE X ce (tC cw)) (hcv : ClsV cw cv) (ok : IsEOk X.K cv tab)
    (hs : starEach [e, ce] X.env = (false, eval e X.env) :: starEach [ce] X.env := by rfl) (hs2 : starEach [ce] X.env = (false, eval ce X.env) :: starEach [] X.env := by rfl)
    (hpl : (backTo pos (starEach [ce] X.env)).any (·.1) = false := by rfl) : PEL X (.Call (.Name "isinstance" p) [e, ce] [] pos) (lIsE tab l) := by
  refine ⟨fun pins s σ H m ρ S I x r hp => ?_⟩
  refine wpAny_Call_Name_kw (ld_blt I hg hm (u := .builtin "isinstance") (by decide +kernel) ?_ (by decide) (by decide))
  refine PyProof.Rows.callWith_builtin1 ?_ hs hpl
  rw [hs]
  show wpAny _ _ (spliced ((false, eval e X.env) :: backTo pos (starEach [ce] X.env))) _ _ s
  refine Calls.spliced_cons (run_seq he I x r hp fun d S1 q1 v u s1 H1 m1 I1 rv e1 x1 w1 r1 hp1 => ?_)
  rw [hs2]
  show wpAny _ _ (spliced ((false, eval ce X.env) :: backTo pos (starEach [] X.env))) _ _ s1
  refine Calls.spliced_cons (thn (hc.run pins s1 σ H1 (fun v' H' => v' = cw ∧ H' = H1) I1 ⟨rfl, rfl⟩) fun u2 s2 ⟨v2, H2, I2, rv2, ev, eH⟩ => ?_)
  subst ev
  subst eH
  refine Calls.spliced_nil ?_
  obtain ⟨d', q2⟩ := lift_ok hp1
  have e0 : lIsE tab l ρ S = .ok d' S1 := by unfold lIsE; rw [q1, bind_ok, q2]; rfl
  rw [e0]
  unfold gIsE at q2
  split at q2
  · rename_i C gs q3
    cases qb : tab C with
    | none => rw [qb] at q2; cases q2
    | some b =>
      rw [qb] at q2
      cases q2
      obtain ⟨k1, T⟩ := ok.one C b qb
      obtain ⟨a, ox, od, rfl, J, _⟩ := exn_inst I2 (vw_exn w1 q3)
      have ec := hcv.eq rv2
      subst ec
      obtain rfl : u = Value.ref a := rv
      exact PySem.W.kia_one (PySem.W.kitx_excD T.hg T.hk T.hs T.hd T.ha T.hn T.ht T.hm) I2.kIn J k1 (fun z => nomatch z) fun tk => ⟨_, S1, rfl, .bl b, H2, m1, I2.tok tk, rfl, e1, x1, .bl b⟩
  · cases q2
end
end MP

/-! own exceptions made as values -/
namespace MP
open PySem PySem.Spec PyProof.Rows L2
/-! ### the bodies of __init__ -/
theorem rd_init1 {K : PySem.W.Frag} {f msg : Str} {N : List Str} {vs : List V} {H : Hp} {Q : VK} {E : XK} (h : spE K [f] vs H Q E) :
    tSeq (tDrop (tVeI K (tCons (tVar 0) (tCons (tC (.str msg)) L2.tNil)))) (tSeq (tOst K f (tVar 0) (tVar 1)) tNext) { nx := fun _ H' => Q .non H', rt := Q } (L2.start N vs) H := by
  obtain ⟨e, C, ys, rfl, hl, T, hno, he, hq⟩ := h
  match ys, hl with
  | [y], _ =>
    refine ⟨.ref e, rfl, e, C, [.str msg], rfl, by simp, T, he, y, rfl, .ref e, rfl, e, C, rfl, T, hno f (by simp), .inl ⟨he, fun dx n ne => ?_⟩⟩
    exact hq dx n ne
theorem vfs_zip {K : PySem.W.Frag} {m : List Addr} {H : Hp} : ∀ {fs : List Str} {vs : List V} {ds : List D}, VRs K m H vs ds → VFs K m H (fs.zip vs) (fs.zip ds)
  | [], _, _, _ => .nil
  | _ :: _, _, _, .nil => .nil
  | _ :: _, _, _, .cons h r => .cons h (vfs_zip r)
theorem vfs_append {K : PySem.W.Frag} {m : List Addr} {H : Hp} {vs ws : List (Str × V)} {ds es : List (Str × D)} : VFs K m H vs ds → VFs K m H ws es → VFs K m H (vs ++ ws) (ds ++ es)
  | .nil, r => r
  | .cons h r, r' => .cons h (vfs_append r r')
theorem vfs_rev {K : PySem.W.Frag} {m : List Addr} {H : Hp} : ∀ {vs : List (Str × V)} {ds : List (Str × D)}, VFs K m H vs ds → VFs K m H vs.reverse ds.reverse
  | _, _, .nil => .nil
  | _, _, .cons h r => by
    rw [List.reverse_cons, List.reverse_cons]
    exact vfs_append (vfs_rev r) (.cons h .nil)
/-- what a class C with an __init__ of its own must have -/
structure MkE (K : PySem.W.Frag) (C f : Addr) (fs : List Str) : Prop where
  T : OexC K C
  i : PySem.W.findIn K (.ref C) "__init__" = some (some (.ref f))
  t : PySem.W.typeIn K (.ref f) = some (.type "function")
  no : ∀ g ∈ fs, PySem.W.findIn K (.ref C) g = some none
section
variable {X : Cx} {pins : List (Addr × Obj)} {σ : L2.St} {H : Hp} {s : Shared} {m : List Addr} {S : Sto} {C f : Addr} {fs ps : List Str} {k : Nat} {fd : FuncData}
abbrev FnE (P : Program) (w : World) (K : PySem.W.Frag) (mg : Str → Option Value) (base : Heap) (k : Nat) (f : Addr) (fd : FuncData) (ps fs : List Str) : Prop := FnOk P w K mg base (L2.CX P w) k f fd ps (spE K fs)
end
end MP

namespace MP
open PySem PySem.Spec PyProof.Rows L2
section
variable {X : Cx} {e : Expr} {pos p : Pos} {es : List Expr} {kws : List Keyword} {t tk : LA} {x : Str} {k : Nat} {f C : Addr} {fd : FuncData} {ps ks fs : List Str}
def mkE (C : Addr) (fs : List Str) (ds : List D) (S : Sto) : R D := if ds.length = fs.length then .ok (.exn C (fs.zip ds).reverse) S else .bad
/-- C(k = v, ..), likewise; pk: the order of the values, self being 0 -/
def mkEk (C : Addr) (fs ks : List Str) (pk : List Nat) (ds : List D) (S : Sto) : R D := if ds.length = ks.length ∧ (pick pk ds).length = fs.length then .ok (.exn C (fs.zip (pick pk ds)).reverse) S else .bad
theorem exV_ok {P : Program} {w : World} {H : Hp} {h : Heap} {a : Addr} {d : Option Addr} {oe : Obj} {vs : Array Value} (e1 : h.get? a = some oe) (z : Zc (.ref C) d oe) (d1 : oe.data = .fields vs) : ObjOk P w H h a (ExV C d a) :=
  ⟨⟨oe, vs, e1, z, d1⟩, ⟨oe, e1⟩, fun h1 h2 z kz => by
    obtain ⟨oe, vs, z1, z2, z3⟩ := z
    exact ⟨oe, vs, kz _ z1, z2, z3⟩⟩
end
end MP

/-! an exception that a handler keeps: it is taken into the abstract heap -/
namespace MP
open PySem PySem.Spec PyProof.Rows L2
section
variable {X : Cx} {pins : List (Addr × Obj)} {σ : L2.St} {H : Hp} {s : Shared} {a : Addr} {o : HO}
theorem inv_suiteA (I : Inv X pins σ H s) : Inv (X.suite a (X.pn ++ pins)) [] σ H s :=
  ⟨I.ok.suite _ _, I.os, I.bare, I.base, I.loc, I.cell, I.free, I.freeC, fun p hp => I.pin p (by rw [List.append_nil] at hp; exact hp), I.hok, I.len⟩
theorem inv_unsuiteA {pn' : List (Addr × Obj)} (I : Inv (X.suite a (X.pn ++ pins)) pn' σ H s) (ok : X.Ok) : Inv X pins σ H s :=
  ⟨ok, I.os, I.bare, I.base, I.loc, I.cell, I.free, I.freeC, fun p hp => I.pin p (List.mem_append_left _ hp), I.hok, I.len⟩
theorem inv_adopt (I : Inv X pins σ H s) (na : H a = none) (n0 : X.s_0.heap.get? a = none) (nL : a ≠ X.env.locals) (nC : ∀ x c, X.env.cells.lookup x = some c → c ≠ a) (nP : ∀ p ∈ X.pn ++ pins, p.1 ≠ a) (new : ObjOk X.prog X.w (upd H a o) s.heap a o) :
    Inv X pins σ (upd H a o) s := by
  have ne0 : ∀ {b : Addr} {u : Obj}, X.s_0.heap.get? b = some u → b ≠ a := fun {b u} e z => by
    rw [z, n0] at e
    cases e
  refine ⟨I.ok, I.os, I.bare, ⟨I.base.keep, I.base.slot, fun b u e n hx => ?_, I.base.there, fun b xs e => ?_, fun b u v e => ?_, fun b ps e => ?_⟩, I.loc, I.cell, ?_, fun x c e => ?_, fun p hp => ?_, I.hok.laidN (fun _ _ z => z) na new, I.len⟩
  · rw [upd_ne (ne0 e)]
    exact I.base.free b u e n hx
  · rw [upd_ne (ne_of_none (I.base.tups b xs e) na)]
    exact I.base.tups b xs e
  · rw [upd_ne (ne_of_none (I.base.frzs b u v e) na)]
    exact I.base.frzs b u v e
  · obtain ⟨more, z⟩ := I.base.tbls b ps e
    exact ⟨more, by rw [upd_ne (ne_of_none z na)]; exact z⟩
  · rw [upd_ne (Ne.symm nL)]
    exact I.free
  · rw [upd_ne (nC x c e)]
    exact I.freeC x c e
  · obtain ⟨e, n, r⟩ := I.pin p hp
    exact ⟨e, by rw [upd_ne (nP p hp)]; exact n, r⟩
end
end MP

/-! try: .. except C as n: .., the exception being a value from the handler on (the road of L2.ps_try_as) -/
namespace MP
open PySem PySem.Spec PyProof.Rows L2
def endH (i : Nat) (fl : Fl) (S : Sto) : R Fl := match fl with
  | .nx ρ => .ok (.nx (ρ.set i none)) S
  | .bk ρ => .ok (.bk (ρ.set i none)) S
  | .ct ρ => .ok (.ct (ρ.set i none)) S
  | .rt d => .ok (.rt d) S
  | .ex _ _ _ => .bad
def catchH (i : Nat) (tab : Addr → Option Bool) (ls : LS) (fl : Fl) (S : Sto) : R Fl := match fl with
  | .ex C fs ρ => match tab C with
    | some true => (ls (ρ.set i (some (.exn C fs))) S).bind (endH i)
    | some false => .ok (.ex C fs ρ) S
    | none => .bad
  | fl => .ok fl S
def lTryA (i : Nat) (tab : Addr → Option Bool) (lb ls : LS) : LS := fun ρ S => (lb ρ S).bind (catchH i tab ls)
theorem ER.clr {K : PySem.W.Frag} {m : List Addr} {H : Hp} {σ : L2.St} {ρ : Ev} (r : ER K m H σ ρ) (i : Nat) : ER K m H (σ.set i none) (ρ.set i none) := ⟨fun j d e => by
  by_cases hj : i = j
  · subst hj
    by_cases hi : i < ρ.length
    · rw [List.getElem?_set_self hi] at e
      cases e
    · rw [List.getElem?_eq_none (by simpa using hi)] at e
      cases e
  · rw [List.getElem?_set_ne hj] at e ⊢
    exact r.at_ j d e, by simp [r.len]⟩
section
variable {X : Cx} {x n : Str} {c : Value} {i : Nat} {body suite : List Stmt} {b₀ : Stmt} {np pos pos' : Pos} {lb ls : LS} {tab : Addr → Option Bool}
theorem psl_tryA (hs : X.stack = X.env :: X.outer) (hf : X.env.frame = some X.env.locals) (hN : X.N.Nodup) (hi : X.N[i]? = some n) (hln : X.env.kindOf n = some .local) (hc : Names X x c) (hex : X.ex = [])
    (htab : ∀ C b, tab C = some b → PySem.W.exmOne X.K (.ref C) c = some b)
    (hb : ∀ (pn : List (Addr × Obj)) (xe : Value → Shared → Prop), PassesOwn (model X.prog X.w) X.A X.env xe → PSsL (X.tr pn xe) body lb)
    (hsu : ∀ (a : Addr) (pn : List (Addr × Obj)), PSsL (X.suite a pn) (b₀ :: suite) ls) :
    PSL X (.Try body [.ExceptHandler (some (.Name x np)) (some n) (b₀ :: suite) pos'] [] [] pos) (lTryA i tab lb ls) := by
  refine ⟨fun pins s σ H D I ⟨m, ρ, S, x0, er, hl, h⟩ => ?_⟩
  have ok := I.ok
  have hfr : X.A.frames = some (X.env :: X.outer) := by rw [ok.frames, hs]
  have hloc : Loc X.env.scope n := .inl hln
  have hval : ∀ {fl : Fl} {S1 : Sto}, lb ρ S = .ok fl S1 → lTryA i tab lb ls ρ S = catchH i tab ls fl S1 := fun {fl S1} q => by
    unfold lTryA
    rw [q]
    rfl
  obtain ⟨fl0, S0, q0⟩ := h.ok
  obtain ⟨fl1, S1, q1, q2⟩ := bind_nbad q0
  refine wpAny_Try_except ?_
  refine wpAny_mono ((hb (X.pn ++ pins) (fun e s₁ => wpAny (model X.prog X.w) X.A (noteFrame e X.env) (fun _ s₂ => wpAny (model X.prog X.w) X.A (setFlight e none) (fun _ s₃ =>
    wpAny (model X.prog X.w) X.A (handleBy e X.env [.ExceptHandler (some (.Name x np)) (some n) (b₀ :: suite) pos']) (SP X pins D) X.xe s₃) X.xe s₂) X.xe s₁) PassesOwn.looking).run [] s σ H D (I.toTry _)
      ⟨m, ρ, S, x0, er, hl, ⟨⟨fl1, S1, q1⟩, fun ρ' S' q σ' H' z => h.nx ρ' S' ((hval q).trans rfl) σ' H' z, fun d S' q v H' z => h.rt d S' ((hval q).trans rfl) v H' z, fun ρ' S' q σ' H' z => h.bk ρ' S' ((hval q).trans rfl) σ' H' z, fun ρ' S' q σ' H' z => h.ct ρ' S' ((hval q).trans rfl) σ' H' z, ?_⟩⟩) (fun f s1 hsp => ?_) (fun e s1 he => he)
  · intro C fs ρ' S' q u s' xx
    have hv := hval q
    obtain ⟨a, B, sI, pins', σ', H', cls, dE, rfl, J', nb, up, sky, na, os, ag, wc, m', wd, e', x', er', hl'⟩ := xx
    subst wc
    have J : Inv X pins σ' H' sI := J'.ofTry ok
    have sky' : Sky B (X.env :: X.outer) a (Zc (.ref C) dE) X.env.locals s'.heap := by rw [← hs]; exact sky
    show wpAny (model X.prog X.w) X.A (noteFrame (.ref a) X.env) _ _ _
    refine Sky.land Zc.steady hfr hf sky' fun h3 fl3 up3 => ?_
    have J3 : Inv X pins σ' H' { s' with heap := h3 } := J.landed nb fl3.1 (up.trans up3) os ag
    obtain ⟨oe3, vs3, he3, hz3, hd3⟩ := fl3.there
    have notFr : ∀ {h : Heap} {o : Obj} {vs : Array Value}, h.FunFrames B (X.env :: X.outer) → h.get? a = some o → o.data = .fields vs → a ∉ frs (X.env :: X.outer) := fun {h o vs} ff e dd hm => by
      obtain ⟨_, o', e', hnf⟩ := ff.mem hm
      rw [e] at e'; cases e'
      exact hnf _ dd
    have nfr := notFr fl3.2.2.1 he3 hd3
    have nL : a ≠ X.env.locals := fun z => nfr (List.mem_filterMap.mpr ⟨X.env, List.mem_cons_self, by rw [hf, z]⟩)
    have nF : a ∉ X.fs := fun hm => by
      obtain ⟨e, he, q⟩ := List.mem_filterMap.mp hm
      exact nfr (List.mem_filterMap.mpr ⟨e, List.mem_cons_of_mem _ he, q⟩)
    have hBa : B.get? a = none := fl3.2.1
    have hIa : sI.heap.get? a = none := by
      cases z : sI.heap.get? a with
      | none => rfl
      | some o =>
        have z2 := nb a o z (by rw [hs]; exact nfr)
        rw [hBa] at z2
        cases z2
    have n0 : X.s_0.heap.get? a = none := by
      cases z : X.s_0.heap.get? a with
      | none => rfl
      | some o =>
        obtain ⟨o', z2⟩ := J.base.there a o z (by rw [hex]; simp)
        rw [hIa] at z2
        cases z2
    have nC : ∀ y c, X.env.cells.lookup y = some c → c ≠ a := fun y c e z => by
      obtain ⟨w, o, z2, _⟩ := J.cell y c e
      rw [z, hIa] at z2
      cases z2
    have nP : ∀ p ∈ X.pn ++ pins, p.1 ≠ a := fun p hp z => by
      have z2 := (J.pin p hp).1
      rw [z, hIa] at z2
      cases z2
    have S3 := J3.suite he3 hd3 na nL nF
    refine wpAny_handleBy_cons (codeAny_handlers_test ?_) (by intro q; cases q)
    have LT : PySem.W.Looks (model X.prog X.w) h3 (typeOf (.ref a)) (.ref C) := fun A Q E s k q => wpAny_typeOf_ref (k _ _ he3) (by rw [hz3.1]; exact q)
    cases hb1 : tab C with
    | none =>
      obtain ⟨f2, S2, z⟩ := h.ok
      rw [hv] at z
      unfold catchH at z
      dsimp only at z
      rw [hb1] at z
      cases z
    | some b =>
    have LM := PySem.W.exm_one (M := model X.prog X.w) (J3.kIn) LT (htab C b hb1)
    have test : ∀ {Q : Value → Shared → Prop} {E : Value → Shared → Prop}, Q c { s' with heap := h3 } → wpAny (model X.prog X.w) (X.A.mark (some (.ref a))) (eval (.Name x np) X.env) Q E { s' with heap := h3 } := fun {Q E} q => by
      obtain ⟨hg, hdbg, hm | ⟨hm, hv, hnn⟩⟩ := hc
      · exact ld_glob (X := X.suite a ((a, oe3) :: (X.pn ++ pins))) S3 hg hm q hdbg
      · exact ld_blt (X := X.suite a ((a, oe3) :: (X.pn ++ pins))) S3 hg hm hv q hnn hdbg
    refine test (LM.here ?_)
    cases b with
    | true =>
      refine codeAny_handlers_suite_as ?_
      refine HandSPX.lands_againZ fl3 fun h4 fl4 up4 => ?_
      have J4 : Inv X pins σ' H' { s' with heap := h4 } := J.landed nb fl4.1 ((up.trans up3).trans up4) os ag
      obtain ⟨oe4, vs4, he4, hz4, hd4⟩ := fl4.there
      have I5 : Inv X pins σ' (upd H' a (ExV C dE a)) { s' with heap := h4 } := inv_adopt J4 na n0 nL nC nP (exV_ok he4 hz4 hd4)
      have x5 : SR X.K m' (upd H' a (ExV C dE a)) S' := x'.fresh na
      have e5 : Ext m' H' m' (upd H' a (ExV C dE a)) := Ext.fresh na
      have w5 : VR X.K m' (upd H' a (ExV C dE a)) (.ref a) (.exn C fs) := by
        rcases wd with ⟨dd, vs, rfl, hxd, vfs⟩ | ⟨rfl, rfl⟩
        · have hdd : dd ≠ a := fun z => by
            rw [z, na] at hxd
            cases hxd
          have ndd : dd ∉ m' := fun z => by
            have mu := x'.mut z
            rw [hxd] at mu
            exact mu
          exact .exnD (x'.nin na) ndd upd_same (.inr (by rw [upd_ne hdd]; exact hxd)) (vfs.ext e5 x'.muts)
        · exact .exn0 (x'.nin na) upd_same
      have S4 := inv_suiteA (a := a) I5
      have hcat : lTryA i tab lb ls ρ S = (ls (ρ'.set i (some (.exn C fs))) S').bind (endH i) := by
        rw [hv]
        unfold catchH
        dsimp only
        rw [hb1]
      rw [hcat] at h
      obtain ⟨f3, S3', q3⟩ := h.ok
      obtain ⟨f4, S4', q4, q5⟩ := bind_nbad q3
      have hend : ∀ {fl : Fl} {S2 : Sto}, ls (ρ'.set i (some (.exn C fs))) S' = .ok fl S2 → (ls (ρ'.set i (some (.exn C fs))) S').bind (endH i) = endH i fl S2 := fun {fl S2} q => by rw [q]; rfl
      have e6 := e'.trans e5
      refine store_ok (X := X.suite a (X.pn ++ pins)) (v := .ref a) S4 hN hi hloc rfl (fun s5 S5 => ?_) (.inr hln)
      refine wpAny_mono ((hsu a (X.pn ++ pins)).run [] s5 _ _ { nx := fun σ6 H6 => D.nx (σ6.set i none) H6, rt := D.rt, bk := fun σ6 H6 => D.bk (σ6.set i none) H6, ct := fun σ6 H6 => D.ct (σ6.set i none) H6 } S5
        ⟨m', ρ'.set i (some (.exn C fs)), S', x5, (er'.ext e5 x'.muts).set w5, by simp [hl'], ⟨⟨f4, S4', q4⟩, fun ρ2 S2 q σ6 H6 z => ?_, fun d2 S2 q v6 H6 z => ?_, fun ρ2 S2 q σ6 H6 z => ?_, fun ρ2 S2 q σ6 H6 z => ?_, fun C2 fs2 ρ2 S2 q u2 s2 z => ?_⟩⟩) (fun f s6 hsp => ?_) (fun _ _ z => False.elim z)
      · obtain ⟨m6, e7, x7, er7, hl7⟩ := z
        exact h.nx (ρ2.set i none) S2 (hend q) _ _ ⟨m6, e6.trans e7, x7, er7.clr i, by simp [hl7]⟩
      · exact h.rt d2 S2 (hend q) _ _ (z.left e6)
      · obtain ⟨m6, e7, x7, er7, hl7⟩ := z
        exact h.bk (ρ2.set i none) S2 (hend q) _ _ ⟨m6, e6.trans e7, x7, er7.clr i, by simp [hl7]⟩
      · obtain ⟨m6, e7, x7, er7, hl7⟩ := z
        exact h.ct (ρ2.set i none) S2 (hend q) _ _ ⟨m6, e6.trans e7, x7, er7.clr i, by simp [hl7]⟩
      · rw [hend q] at q3
        cases q3
      have end_ : ∀ {σ6 : L2.St} {H6 : Hp} {Q : Shared → Prop}, Inv (X.suite a (X.pn ++ pins)) [] σ6 H6 s6 → (∀ s7, Inv X pins (σ6.set i none) H6 s7 → Q s7) →
          wpAny (model X.prog X.w) X.A (do bindName X.env n .none; unbindBehindTheSuite X.env n pos') (fun _ s7 => Q s7) X.xe s6 := fun {σ6 H6 Q} S6 hq => gone_ok (inv_unsuiteA S6 ok) hN hi hln hq
      cases f with
      | next =>
        obtain ⟨σ6, H6, S6, q6⟩ := hsp
        exact end_ S6 fun s7 J7 => ⟨_, _, J7, q6⟩
      | brk =>
        obtain ⟨σ6, H6, S6, q6⟩ := hsp
        exact end_ S6 fun s7 J7 => ⟨_, _, J7, q6⟩
      | cont =>
        obtain ⟨σ6, H6, S6, q6⟩ := hsp
        exact end_ S6 fun s7 J7 => ⟨_, _, J7, q6⟩
      | ret u =>
        obtain ⟨v6, σ6, H6, S6, r6, q6⟩ := hsp
        exact end_ S6 fun s7 J7 => ⟨_, _, _, J7, r6, q6⟩
    | false =>
      show wpAny _ X.A (handleBy (.ref a) X.env []) _ _ _
      refine wpAny_handleBy_nil ?_
      obtain ⟨k1, k2, k3, oe, vs4, T, oT, ts', he, hz, hd, h1, hr⟩ := id fl3
      unfold PySem.passOn
      refine wpAny_bind (wpAny_field he hd h1 ?_)
      rw [if_neg (show ¬ ((Value.ref T == Value.none) = true) from by simp)]
      have hcat : lTryA i tab lb ls ρ S = .ok (.ex C fs ρ') S' := by
        rw [hv]
        unfold catchH
        dsimp only
        rw [hb1]
      have fin : wpAny (model X.prog X.w) X.A (setFlight (.ref a) X.env.frame) (fun _ s4 => wpAny (model X.prog X.w) X.A (throw (.ref a) : Sem Flow) (SP X pins D) X.xe s4) X.xe { s' with heap := h3 } := by
        rw [hf]
        refine HandSPX.setFlight_upZ fl3 fun h4 hh4 up4 => wpAny_throw (h.ex C fs ρ' S' hcat _ _ ?_)
        exact ⟨a, B, sI, pins, σ', H', .ref C, dE, rfl, J, nb, (up.trans up3).trans up4, .inr (.inr (by rw [hs]; exact hh4)), na, os, ag, rfl, m', wd, e', x', er', hl'⟩
      first
        | exact wpAny_bind (wpAny_pure (wpAny_bind fin))
        | exact wpAny_bind fin
  · cases f with
    | next =>
      obtain ⟨σ', H', J', q⟩ := hsp
      exact wpAny_execs_nil ⟨σ', H', J'.ofTry ok, q⟩
    | brk =>
      obtain ⟨σ', H', J', q⟩ := hsp
      exact ⟨σ', H', J'.ofTry ok, q⟩
    | cont =>
      obtain ⟨σ', H', J', q⟩ := hsp
      exact ⟨σ', H', J'.ofTry ok, q⟩
    | ret u =>
      obtain ⟨v, σ', H', J', r, q⟩ := hsp
      exact ⟨v, σ', H', J'.ofTry ok, r, q⟩
end
end MP

/-! raise C(e, ..), C an own class with an __init__ of its own -/
namespace MP
open PySem PySem.Spec PyProof.Rows L2
theorem upd_del {H : Hp} {a dx : Addr} {o u v w : HO} (n : H a = none) (ne : dx ≠ a) : upd (del (upd (upd (upd H a o) dx u) a v) a) dx w = upd H dx w := by
  funext b
  unfold upd del
  by_cases h1 : b = dx
  · rw [if_pos h1, if_pos h1]
  · rw [if_neg h1, if_neg h1]
    by_cases h2 : b = a
    · rw [if_pos h2, h2, n]
    · rw [if_neg h2]
      show (if b = a then some v else if b = dx then some u else if b = a then some o else H b) = H b
      rw [if_neg h2, if_neg h1, if_neg h2]
section
variable {X : Cx} {e : Expr} {es : List Expr} {ta : TA} {p pos : Pos}
/-- L2.pmk_oex with the guards (its lines) -/
theorem pmk_oexG {CX : CXT} {x : Str} {C fI : Addr} {k : Nat} {fd : FuncData} {ps : List Str} {sp : Sp} {ds : List Value} {dvs : List V} (T : OexC X.K C) (iC : PySem.W.findIn X.K (.ref C) "__init__" = some (some (.ref fI))) (tI : PySem.W.typeIn X.K (.ref fI) = some (.type "function"))
    (F1 : MP.FnOk X.prog X.w X.K X.mg X.base CX k fI fd ps sp) (hr : MP.Room (k + 1) X.A) (hb : Binds X.K fd ps ds) (hd : Vals dvs ds) (hx : Passes CX X (fun _ _ _ => False)) (hg : Gl X x) (hm : X.mg x = some (.ref C)) (ha : PA X (e :: es) ta)
    (hdb : (x == ("__debug__" : Str)) = false := by decide) (he : starEach (e :: es) X.env = (false, eval e X.env) :: starEach es X.env := by rfl) (hpl : (backTo pos (starEach es X.env)).any (·.1) = false := by rfl) :
    PMk X (.Call (.Name x p) (e :: es) [] pos) (tMkO C sp dvs ta) := by
  intro pins s σ H Q I h
  obtain ⟨nm, q, N, bs, bm, sn, sub, ab, col, dd, k0, k1, k2, k3, k5, hC, hbm⟩ := T.cls
  refine wpAny_Call_Name_kw (ld_glob I hg hm ?_ hdb)
  refine PySem.W.callWith_K (h₀ := X.base) I.ok.mod.kin T.kC (thn (ha.run pos pins s σ H _ I h) fun us s1 ⟨vs, H1, I1, r1, hz, q1⟩ => ⟨I1.kIn, ?_⟩) he hpl
  show wpAny _ _ (call (.ref C) us) _ _ _
  obtain ⟨hp, g, dr, tk, os⟩ := s1
  have hsz : hp.objs.size ≤ hp.objs.size + 1 := Nat.le_succ _
  have hn : H1 (hp.objs.size + 1) = none := I1.hok.fresh hsz
  have hq := q1 (hp.objs.size + 1) hn
  have kk : ∀ b o, hp.get? b = some o → ((hp.push (PySem.W.kdv_tup us)).push (PySem.HandSPX.excO C hp.objs.size)).get? b = some o := fun b o e => Heap.get?_push_of_some _ (Heap.get?_push_of_some _ e)
  have hget : ((hp.push (PySem.W.kdv_tup us)).push (PySem.HandSPX.excO C hp.objs.size)).get? (hp.objs.size + 1) = some (PySem.HandSPX.excO C hp.objs.size) := by heap_get
  have I2 : Inv X pins σ (upd H1 (hp.objs.size + 1) (exo (hp.objs.size + 1) C none)) ⟨(hp.push (PySem.W.kdv_tup us)).push (PySem.HandSPX.excO C hp.objs.size), g, dr, tk, os⟩ :=
    I1.laid (t' := tk) (a := hp.objs.size + 1) (o := exo (hp.objs.size + 1) C none) (h' := (hp.push (PySem.W.kdv_tup us)).push (PySem.HandSPX.excO C hp.objs.size)) kk hsz (exo_ok hget)
  have r2 : Vals (V.ref (hp.objs.size + 1) :: (vs ++ dvs)) (Value.ref (hp.objs.size + 1) :: (us ++ ds)) := .cons rfl (r1.append hd)
  have hl : (Value.ref (hp.objs.size + 1) :: us ++ ds).length = ps.length := by
    have e := r2.length
    rw [F1.len _ _ _ _ hq] at e
    exact e.symm
  have hus : us.length ≤ sizeLine := by
    rw [← Paired.length r1, sizeLine_eq]
    omega
  refine wpAny_call (PySem.HandSPX.call_own F.excBase_ValueError (fun Y => PySem.HandSPX.refsVE_contains Y bm hbm) (I1.kIn _ _ hC) (PySem.W.looks_findIn I1.kIn iC) (fun self => PySem.W.bind_fn I1.kIn self tI) hus
    (codeAny_mono (F1.run _ X.stack _ _ ⟨Value.ref (hp.objs.size + 1) :: us, []⟩ (Value.ref (hp.objs.size + 1) :: (us ++ ds)) _ _ (fun _ _ _ => False) (hr.make C us []) (I2.env0.make C us []) (hb _ (Value.ref (hp.objs.size + 1) :: us) I2.kIn hl) r2 hq) fun r s' hq' => ?_))
  cases r with
  | error er => exact hx pins σ _ _ er s' I2 hq'
  | ok fl =>
    cases fl with
    | ret u =>
      obtain ⟨v, H2, os2, bare2, un2, hok2, rv, ev, d, fs, ea, ed, hd1, q2⟩ := hq'
      subst ev
      obtain ⟨h2, g2, d2, t2, os'⟩ := s'
      exact ⟨rv, mk_end (raises_own T.exC T.tyC) I1 hsz kk un2 hok2 os2 bare2 ea ed hd1 q2⟩
    | next => exact False.elim hq'
    | brk => exact False.elim hq'
    | cont => exact False.elim hq'
end
section
variable {X : Cx} {e : Expr} {pos pos' p : Pos} {es : List Expr} {t : LA} {x : Str} {k : Nat} {f C : Addr} {fd : FuncData} {ps fs : List Str}
def lRaiseE (C : Addr) (fs : List Str) (t : LA) : LS := fun ρ S => liftX ρ (t ρ S) fun ds S1 => if ds.length = fs.length then .ok (.ex C (fs.zip ds).reverse ρ) S1 else .bad
theorem psl_raiseE (hc : X.calm = true) (M : MkE X.K C f fs) (Fn : FnE X.prog X.w X.K X.mg X.base k f fd ps fs) (hr : Room (k + 1) X.A) (hg : Gl X x) (hm : X.mg x = some (.ref C)) (hb : Binds X.K fd ps [])
    (ha : PAL X (e :: es) t) (hdb : (x == ("__debug__" : Str)) = false := by decide) (he : starEach (e :: es) X.env = (false, eval e X.env) :: starEach es X.env := by rfl) (hpl : (backTo pos (starEach es X.env)).any (·.1) = false := by rfl) (hz : fs.length ≤ 900 := by decide) :
    PSL X (.Raise (some (.Call (.Name x p) (e :: es) [] pos)) none pos') (lRaiseE C fs t) := by
  refine ⟨fun pins s σ H D I ⟨m, ρ, S, x0, er, hl, h⟩ => ?_⟩
  have hp : Hope X σ m H (t ρ S) := HS.hope h er hl x0
  refine (ps_raise (W := fun cls d σ' H' => ∃ ds S1, t ρ S = .ok ds S1 ∧ ds.length = fs.length ∧ WS X.K m H C (fs.zip ds).reverse ρ S1 cls d σ' H') hc (fun u s' z => ?_)
    (pmk_oexG M.T M.i M.t Fn hr hb .nil passL hg hm ha.pa hdb he hpl)).run pins s σ H D I ⟨m, ρ, S, x0, er, hp, fun ds S1 q vs H1 m1 e1 x1 w1 => ?_⟩
  · obtain ⟨_, _, _, _, _, _, _, _, _, _, _, _, _, _, _, _, ds, S1, q, hd, _⟩ := id z
    have hv : lRaiseE C fs t ρ S = .ok (.ex C (fs.zip ds).reverse ρ) S1 := by unfold lRaiseE; rw [q]; show (if ds.length = fs.length then _ else _) = _; rw [if_pos hd]
    refine h.ex C _ ρ S1 hv u s' (XE.imp z fun cls d σ' H' w => ?_)
    obtain ⟨ds2, S2, q2, _, w⟩ := w
    rw [q] at q2
    cases q2
    exact w
  · have hd : ds.length = fs.length := by
      obtain ⟨fl, S', z⟩ := h.ok
      unfold lRaiseE at z
      rw [q] at z
      by_cases hd : ds.length = fs.length
      · exact hd
      · rw [show liftX ρ (R.ok ds S1) (fun ds S1 => if ds.length = fs.length then (R.ok (.ex C (fs.zip ds).reverse ρ) S1 : R Fl) else .bad) = (if ds.length = fs.length then (R.ok (.ex C (fs.zip ds).reverse ρ) S1 : R Fl) else .bad) from rfl, if_neg hd] at z
        cases z
    have l1 : vs.length = fs.length := by rw [w1.length]; exact hd
    refine ⟨by omega, fun a na => ?_⟩
    rw [List.append_nil]
    refine ⟨a, C, vs, rfl, l1, M.T, M.no, upd_same, fun dx n ne => ?_⟩
    rw [upd_ne ne] at n
    refine ⟨rfl, dx, (fs.zip vs).reverse, upd_same, by rw [upd_ne ne, upd_same], n, ds, S1, q, hd, ?_⟩
    rw [upd_del na ne]
    have E1 : Ext m1 H1 m1 (upd H1 dx (.xd (fs.zip vs).reverse)) := Ext.fresh n
    exact ⟨rfl, m1, .inl ⟨dx, (fs.zip vs).reverse, rfl, upd_same, vfs_rev (vfs_zip (w1.ext E1 x1.muts))⟩, e1.trans E1, x1.fresh n, er.ext (e1.trans E1) x0.muts, hl⟩
end
end MP

namespace MP
open PySem PySem.Spec PyProof.Rows L2
/-- a short text times a small int -/
def strRep (x : Str) (n : Int) : Str := if n < 1 then Str.empty else if (n == 1 || x.length == 0) = true then x else ⟨(List.replicate n.toNat x.cps).foldl (· ++ ·) #[]⟩
def gMulS : G2 := fun S dx dy => match vw S dx, vw S dy with
  | .str x, .int n => if 0 ≤ n ∧ n ≤ 1000 ∧ x.length ≤ 1000 ∧ (strRep x n).length ≤ sizeLine then some (.str (strRep x n)) else none
  | _, _ => none
theorem opl_mulS {X : Cx} : OpL X (binaryOp .Mult) gMulS := ⟨fun pins s σ H m S x y dx dy d v u I q rx ry rv ru e => by
  unfold gMulS at e
  split at e
  · rename_i a n e1 e2
    split at e
    · rename_i hz
      obtain ⟨h0, h1, h2, h3⟩ := hz
      cases e
      have ea := vw_str rx e1
      have eb := vw_int ry e2
      subst ea
      subst eb
      obtain ⟨t, rfl⟩ := rv
      obtain ⟨t2, rfl⟩ := ru
      have hsz : (sizeLine : Nat) ≥ 1000000 := by rw [sizeLine_eq]; omega
      refine PySem.P.mul_str ?_ (fun a1 a2 => ?_) (fun a1 a2 => ?_) ?_
      · rw [decide_eq_false (by omega), decide_eq_false (by omega)]; rfl
      · have : (2 ^ 63 - 1) / n ≥ (2 ^ 63 - 1) / 1000 := by
          have hn : 0 < n := by omega
          rw [ge_iff_le, Int.le_ediv_iff_mul_le hn]
          have : (2 ^ 63 - 1 : Int) / 1000 * n ≤ (2 ^ 63 - 1 : Int) / 1000 * 1000 := Int.mul_le_mul_of_nonneg_left h1 (by decide)
          have z : (2 ^ 63 - 1 : Int) / 1000 * 1000 ≤ 2 ^ 63 - 1 := by decide
          omega
        have z : (2 ^ 63 - 1 : Int) / 1000 ≥ 1000 := by decide
        omega
      · unfold Builtin.Str.tooLong
        refine decide_eq_false ?_
        have : a.length * n.toNat ≤ 1000 * 1000 := Nat.mul_le_mul h2 (by omega)
        omega
      · unfold strRep at h3 ⊢
        by_cases c1 : n < 1
        · rw [if_pos c1] at h3 ⊢
          rw [if_pos c1]
          exact ⟨h3, .str _, H, m, I.tok _, ⟨_, rfl⟩, Ext.refl, q, .str _⟩
        · rw [if_neg c1] at h3 ⊢
          rw [if_neg c1]
          by_cases c2 : (n == 1 || a.length == 0) = true
          · rw [if_pos c2] at h3 ⊢
            rw [if_pos c2]
            exact ⟨.str _, H, m, I, ⟨_, rfl⟩, Ext.refl, q, .str _⟩
          · rw [if_neg c2] at h3 ⊢
            rw [if_neg c2]
            exact ⟨h3, .str _, H, m, I.tok _, ⟨_, rfl⟩, Ext.refl, q, .str _⟩
    · cases e
  · cases e⟩
end MP

/-! repr of deep data, an empty dict in it too (the road of ReprK.of_reads) -/
namespace MP
open PySem PySem.Spec PyProof.Rows L2
mutual
def toPE : D → Option PyData
  | .non => some .none
  | .bl b => some (.bool b)
  | .int i => some (.int i)
  | .str s => some (.str s)
  | .tup xs => (toPEs xs).map .tuple
  | .ftup xs => (toPEs xs).map .tuple
  | .lst xs => (toPEs xs).map .list
  | .dct _ [] => some (.dict [])
  | _ => none
def toPEs : List D → Option (List PyData)
  | [] => some []
  | x :: xs => (toPE x).bind fun a => (toPEs xs).map fun b => a :: b
end
mutual
inductive De (K : PySem.W.Frag) (H : Hp) : V → PyData → Prop
  | non : De K H .non .none
  | bl (b : Bool) : De K H (.bl b) (.bool b)
  | int (i : Int) : De K H (.int i) (.int i)
  | str (x : Str) : De K H (.str x) (.str x)
  | lst {a : Addr} {xs : List V} {ds : List PyData} : SqL K H a xs → DeAll K H xs ds → De K H (.ref a) (.list ds)
  | tup {a : Addr} {xs : List V} {ds : List PyData} : SqT K H a xs → DeAll K H xs ds → De K H (.ref a) (.tuple ds)
  | dk {a : Addr} : H a = some (.dK []) → De K H (.ref a) (.dict [])
  | dt {a : Addr} : H a = some (.dT []) → De K H (.ref a) (.dict [])
inductive DeAll (K : PySem.W.Frag) (H : Hp) : List V → List PyData → Prop
  | nil : DeAll K H [] []
  | cons {v : V} {vs : List V} {d : PyData} {ds : List PyData} : De K H v d → DeAll K H vs ds → DeAll K H (v :: vs) (d :: ds)
end
section
variable {K : PySem.W.Frag} {m : List Addr} {H : Hp}
mutual
theorem VR.de {v : V} {d : D} {p : PyData} : VR K m H v d → toPE d = some p → De K H v p
  | .non, e => by simp only [toPE] at e; cases e; exact .non
  | .bl b, e => by simp only [toPE] at e; cases e; exact .bl b
  | .int b, e => by simp only [toPE] at e; cases e; exact .int b
  | .str b, e => by simp only [toPE] at e; cases e; exact .str b
  | @VR.tup _ _ _ a vs ds h r, e => by
    simp only [toPE] at e
    cases q : toPEs ds with
    | none => rw [q] at e; cases e
    | some ps => rw [q] at e; cases e; exact .tup (SqT.of h) (r.des q)
  | @VR.ftup _ _ _ a vs ds o hd h r, e => by
    simp only [toPE] at e
    cases q : toPEs ds with
    | none => rw [q] at e; cases e
    | some ps => rw [q] at e; cases e; exact .tup (SqT.rd (.inr ⟨o, h⟩)) (r.des q)
  | @VR.lst _ _ _ a vs ds n h r, e => by
    simp only [toPE] at e
    cases q : toPEs ds with
    | none => rw [q] at e; cases e
    | some ps => rw [q] at e; cases e; exact .lst (.inl h) (r.des q)
  | @VR.lstK _ _ _ a vs ds o its n hk h1 h2 h3 h4 h5 r, e => by
    simp only [toPE] at e
    cases q : toPEs ds with
    | none => rw [q] at e; cases e
    | some ps => rw [q] at e; cases e; exact .lst (.inr ⟨o, its, n, hk, h1, h2, h3, h4, h5⟩) (r.des q)
  | .dct n h r, e => by
    cases r with
    | nil => simp only [toPE] at e; cases e; exact .dk h
    | cons _ _ => simp only [toPE] at e; cases e
  | .dctT n h r, e => by
    cases r with
    | nil => simp only [toPE] at e; cases e; exact .dt h
    | cons _ _ => simp only [toPE] at e; cases e
  | .obj _ _ _, e => by simp only [toPE] at e; cases e
  | .exn0 _ _, e => by simp only [toPE] at e; cases e
  | .exnD _ _ _ _ _, e => by simp only [toPE] at e; cases e
  | .ref _, e => by simp only [toPE] at e; cases e
theorem VRs.des {v : List V} {d : List D} {p : List PyData} : VRs K m H v d → toPEs d = some p → DeAll K H v p
  | .nil, e => by simp only [toPEs] at e; cases e; exact .nil
  | @VRs.cons _ _ _ v d vs ds h r, e => by
    simp only [toPEs] at e
    cases q : toPE d with
    | none => rw [q] at e; cases e
    | some a =>
      rw [q] at e
      cases q2 : toPEs ds with
      | none => rw [q2] at e; cases e
      | some b => rw [q2] at e; cases e; exact .cons (h.de q) (r.des q2)
end
end
section
variable {X : Cx} {pins : List (Addr × Obj)} {σ : L2.St} {H : Hp} {s : Shared} {prog : Program} {w : World}
end
end MP

/-! repr(d) of deep data; list(..) put into the store; list + list -/
namespace MP
open PySem PySem.Spec PyProof.Rows L2
section
variable {X : Cx} {pins : List (Addr × Obj)} {σ : L2.St} {H : Hp} {s : Shared}
end
def gReprD : GC := fun S ds => match ds with
  | [d] => match toPE d with
    | some p => if p.showable = true ∧ p.shown.length ≤ sizeLine ∧ p.depth ≤ 40 then some (.str p.shown) else none
    | none => none
  | _ => none
/-! ### list(..) put into the store -/
def gItems (S : Sto) (ds : List D) : Option (List D) := match ds with
  | [d] => match vw S d with
    | .lst xs => some xs
    | .tup xs => some xs
    | _ => none
  | _ => none
def lListN (t : LA) : LE := fun ρ S => (t ρ S).bind fun ds S1 => match gItems S1 ds with
  | some ys => .ok (.ref S1.length) (S1 ++ [.lst ys])
  | none => .bad
end MP

/-! list + list; isinstance tables of exceptions -/
namespace MP
open PySem PySem.Spec PyProof.Rows L2
theorem list_add_any (l : Addr) (ol : Obj) (items : Array Value) (n : Nat) (b : Addr) (ob : Obj) (items2 : Array Value) (n2 : Nat) (hz : items.size + items2.size ≤ sizeLine) :
    Meets (Builtin.«list.__add__» ⟨[.ref l, .ref b], []⟩) (fun _ R s => s.heap.get? l = some ol ∧ ol.data = .seq items n ∧ s.heap.get? b = some ob ∧ ob.cls = .type "list" ∧ ob.data = .seq items2 n2 ∧
      R (.ok (.ret (Value.ref s.heap.objs.size))) { s with heap := s.heap.push { cls := Value.type "list", data := Data.seq (items ++ items2) } }) :=
  .of_wp fun prog w A R s h => by
    obtain ⟨hl, hd, hb, hc, hd2, h⟩ := h
    have f3 := sub_list_list
    have tb : s.TypeIs (.ref b) "list" := ⟨ob, hb, hc⟩
    unfold Builtin.«list.__add__»
    refine wpAny_bind (wpAny_of_eq (a := ((Value.ref l : Value), [Value.ref b])) (by first | rfl | (simp only [slotArgs]; rfl)) ?_)
    refine wpAny_bind (wpAny_isInstance tb f3 ?_)
    simp only [Bool.not_true, Bool.false_eq_true, if_false]
    first
      | exact wpAny_bind (wpAny_bind (wpAny_listItems hl hd (wpAny_bind (wpAny_listItems hb hd2 (wpAny_newObj_type (wpAny_pure ⟨_, rfl, h⟩) (by first | size_fits | (show (items ++ items2).size ≤ sizeLine; rw [Array.size_append]; omega)))))))
      | exact wpAny_bind (wpAny_listItems hl hd (wpAny_bind (wpAny_listItems hb hd2 (wpAny_bind (wpAny_newObj_type (wpAny_pure ⟨_, rfl, h⟩) (by first | size_fits | (show (items ++ items2).size ≤ sizeLine; rw [Array.size_append]; omega)))))))

section
variable {X : Cx}
theorem opl_catL : OpL X (binaryOp .Add) gCatL := ⟨fun pins s σ H m S x y dx dy d v u I q rx ry ex ey e => by
  obtain ⟨i, j, e1, e2, e3⟩ := g2L_inv e
  split at e3
  · rename_i hz
    cases e3
    obtain ⟨a, xs, rfl, ha, r1⟩ := vw_lst q rx e1
    obtain ⟨b, ys, rfl, hb, r2⟩ := vw_lst q ry e2
    obtain rfl : v = Value.ref a := ex
    obtain rfl : u = Value.ref b := ey
    obtain ⟨its, rv, ⟨o, n, h1, h2, hn, h3⟩, hz1⟩ := I.list ha
    obtain ⟨its2, rv2, ⟨o2, n2, g1, g2, gn, g3⟩, hz2⟩ := I.list hb
    have hl : its.length + its2.length ≤ sizeLine := by rw [← rv.length, ← rv2.length, r1.length, r2.length]; exact hz
    refine concat_meets ⟨_, h1, h2⟩ ⟨_, g1, g2⟩ noFill_list_add seq_list_add F.slot_list_add F.entry_list_add (F.args_list_add_2 _ _) (list_add_any a o its.toArray n b o2 its2.toArray n2 (by rw [List.size_toArray, List.size_toArray]; exact hl)) ⟨h1, h3, g1, g2, g3, ?_⟩
    have ea : its.toArray ++ its2.toArray = (its ++ its2).toArray := by simp
    rw [ea]
    have hf : H s.heap.objs.size = none := I.hok.fresh (Nat.le_refl _)
    have hl2 : (xs ++ ys).length ≤ sizeLine := by rw [List.length_append, r1.length, r2.length]; exact hz
    exact ⟨.ref s.heap.objs.size, upd H s.heap.objs.size (.lst (xs ++ ys)), m, I.laid (t' := s.toks) (fun b u e => Heap.get?_push_of_some _ e) (Nat.le_refl _) ⟨hl2, its ++ its2, 0, rv.append rv2, Heap.get?_push_size _ rfl⟩, rfl, Ext.fresh hf, q.fresh hf, vr_newLst q hf (r1.append r2)⟩
  · cases e3⟩
def gAdd2 : G2 := fun S x y => (gAdd S x y).or (gCatL S x y)
theorem opl_add2 : OpL X (binaryOp .Add) gAdd2 := opl_add.or opl_catL
end
open Classical in
noncomputable def tabE (K : PySem.W.Frag) (c : Value) : Addr → Option Bool := fun D => if ExcC K D then PySem.W.kitOne K (.ref D) c else none
theorem tabE_ok (K : PySem.W.Frag) (c : Value) : IsEOk K c (tabE K c) := ⟨fun C b h => by
  unfold tabE at h
  split at h
  · exact ⟨h, ‹_›⟩
  · cases h⟩
theorem tabE_at {K : PySem.W.Frag} {c : Value} {D : Addr} {b : Bool} (E : ExcC K D) (h : PySem.W.kitOne K (.ref D) c = some b) : tabE K c D = some b := by
  unfold tabE
  rw [if_pos E]; exact h
theorem ise_ok {K : PySem.W.Frag} {c : Value} {D : Addr} {b : Bool} {l : LE} {ρ : Ev} {S S1 : Sto} {fs : List (Str × MP.D)} (E : ExcC K D) (h : PySem.W.kitOne K (.ref D) c = some b) (hl : l ρ S = .ok (.exn D fs) S1) : lIsE (tabE K c) l ρ S = .ok (.bl b) S1 := by
  unfold lIsE
  rw [hl, bind_ok]
  show lift1 ((tabE K c D).map .bl) S1 = _
  rw [tabE_at E h]; rfl
theorem flde_ok {Cs : List Addr} {f : Str} {D : Addr} {l : LE} {ρ : Ev} {S S1 : Sto} {fs : List (Str × MP.D)} {d : MP.D} (hl : l ρ S = .ok (.exn D fs) S1) (hm : D ∈ Cs) (hf : fs.lookup f = some d) : lFldE Cs f l ρ S = .ok d S1 := by
  unfold lFldE
  rw [hl, bind_ok]
  show lift1 (if D ∈ Cs then fs.lookup f else none) S1 = _
  rw [if_pos hm, hf]; rfl
theorem exm_of {K : PySem.W.Frag} {S C : Addr} {b : Bool} (h1 : PySem.W.subIn K (.ref S) (.type "BaseException") = some true) (h2 : PySem.W.hasDictIn K S = true) (h3 : PySem.W.typeIn K (.ref S) = some (.type "type")) (h4 : PySem.W.subIn K (.ref C) (.ref S) = some b) :
    PySem.W.exmOne K (.ref C) (.ref S) = some b := by
  have hc : (PySem.W.clsIn K S).isSome = true := by obtain ⟨cd, hc, _⟩ := PySem.W.any_some h2; rw [hc]; rfl
  unfold PySem.W.exmOne PySem.W.kitCls
  rw [h1]
  simp [hc, h3, h4]
end MP

/-! words on texts and lists of texts -/
namespace MP
open PySem PySem.Spec PyProof.Rows L2
section
variable {X : Cx}
/-- a sign in a text -/
def gInSg : G2 := fun S x y => match vw S x, vw S y with
  | .str i, .str z => match i.cps.toList with
    | [c] => some (.bl (decide (c ∈ z.cps.toList)))
    | _ => none
  | _, _ => none
theorem str_one {i : Str} {c : Nat} (h : i.cps.toList = [c]) : i = ⟨#[c]⟩ := by
  obtain ⟨⟨l⟩⟩ := i
  have : l = [c] := h
  rw [this]
theorem opl_inSg : OpL X (compareOp .In) gInSg := .of op_in_sign fun H m S x y dx dy d q rx ry e => by
  unfold gInSg at e
  split at e
  · rename_i i z e1 e2
    split at e
    · rename_i c hc
      cases e
      have h := str_one hc
      subst h
      exact ⟨c, z, vw_str rx e1, vw_str ry e2, qv_same q (.bl _)⟩
    · cases e
  · cases e
def gLeS : G2 := g2S fun i j => some (.bl (!decide (j.cps.toList < i.cps.toList)))
def gGtS : G2 := g2S fun i j => some (.bl (decide (j.cps.toList < i.cps.toList)))
theorem opl_leS : OpL X (compareOp .LtE) gLeS := .of op_le_str fun H m S x y dx dy d q rx ry e => by
  obtain ⟨i, j, e1, e2, e3⟩ := g2S_inv e
  cases e3
  exact ⟨i, j, vw_str rx e1, vw_str ry e2, qv_same q (.bl _)⟩
theorem opl_gtS : OpL X (compareOp .Gt) gGtS := .of op_gt_str fun H m S x y dx dy d q rx ry e => by
  obtain ⟨i, j, e1, e2, e3⟩ := g2S_inv e
  cases e3
  exact ⟨i, j, vw_str rx e1, vw_str ry e2, qv_same q (.bl _)⟩
/-- a text in a list of texts -/
def strsD : List D → Option (List Str)
  | [] => some []
  | .str x :: r => (strsD r).map fun ys => x :: ys
  | _ :: _ => none
theorem strsD_eq : ∀ {ds : List D} {ys : List Str}, strsD ds = some ys → ds = ys.map D.str
  | [], ys, h => by cases h; rfl
  | d :: ds, ys, h => by
    cases d with
    | str x =>
      simp only [strsD] at h
      cases q : strsD ds with
      | none => rw [q] at h; cases h
      | some zs => rw [q] at h; cases h; rw [strsD_eq q]; rfl
    | _ => simp [strsD] at h
theorem vrs_strs {K : PySem.W.Frag} {m : List Addr} {H : Hp} : ∀ {vs : List V} {ys : List Str}, VRs K m H vs (ys.map D.str) → vs = ys.map V.str
  | _, [], .nil => rfl
  | _, y :: ys, .cons h r => by cases h; rw [vrs_strs r]; rfl
theorem inV_strs (x : Str) (ys : List Str) : inV (.str x) (ys.map V.str) = decide (x ∈ ys) := by
  unfold inV
  induction ys with
  | nil => simp
  | cons y ys ih =>
    rw [List.map_cons, List.any_cons, ih]
    show ((y == x) || decide (x ∈ ys)) = decide (x ∈ y :: ys)
    by_cases h : y = x
    · subst h; simp
    · have : (y == x) = false := beq_eq_false_iff_ne.mpr h
      simp [this, Ne.symm h]
def gInL : G2 := fun S x y => match vw S x, vw S y with
  | .str i, .lst l => (strsD l).map fun ys => .bl (decide (i ∈ ys))
  | _, _ => none
def gNotInL : G2 := fun S x y => match vw S x, vw S y with
  | .str i, .lst l => (strsD l).map fun ys => .bl (!decide (i ∈ ys))
  | _, _ => none
theorem flat_strs (ys : List Str) : (ys.map V.str).all flatV = true := by simp [flatV]
theorem opl_inL : OpL X (compareOp .In) gInL := .of op_in_seq fun H m S x y dx dy d q rx ry e => by
  unfold gInL at e
  split at e
  · rename_i i l e1 e2
    cases hs : strsD l with
    | none => rw [hs] at e; cases e
    | some ys =>
      rw [hs] at e
      cases e
      have hl := strsD_eq hs
      subst hl
      have ex := vw_str rx e1
      subst ex
      obtain ⟨a, vs, rfl, h1, r⟩ := vw_lst q ry e2
      have hv := vrs_strs r
      subst hv
      refine ⟨a, _, rfl, .inl h1, rfl, flat_strs ys, ?_⟩
      show QV X.K m H S _ (.bl (inV (.str i) (ys.map V.str))) H
      rw [inV_strs]
      exact qv_same q (.bl _)
  · cases e
theorem opl_notInL : OpL X (compareOp .NotIn) gNotInL := .of op_notIn_seq fun H m S x y dx dy d q rx ry e => by
  unfold gNotInL at e
  split at e
  · rename_i i l e1 e2
    cases hs : strsD l with
    | none => rw [hs] at e; cases e
    | some ys =>
      rw [hs] at e
      cases e
      have hl := strsD_eq hs
      subst hl
      have ex := vw_str rx e1
      subst ex
      obtain ⟨a, vs, rfl, h1, r⟩ := vw_lst q ry e2
      have hv := vrs_strs r
      subst hv
      refine ⟨a, _, rfl, .inl h1, rfl, flat_strs ys, ?_⟩
      show QV X.K m H S _ (.bl (!inV (.str i) (ys.map V.str))) H
      rw [inV_strs]
      exact qv_same q (.bl _)
  · cases e
/-- int(a truth), int(an int) -/
def gInt1 : GC := fun _ ds => match ds with
  | [.int i] => some (.int i)
  | [.bl b] => some (.int (if b then 1 else 0))
  | _ => none
theorem cl_int1 : CallL X (.type "int") gInt1 := .of call_int1 fun H m S xs ds d q r e => by
  unfold gInt1 at e
  split at e
  · cases e
    obtain ⟨v, rfl, rv⟩ := r.one
    cases rv
    exact .inl ⟨_, rfl, qv_same q (.int _)⟩
  · cases e
    obtain ⟨v, rfl, rv⟩ := r.one
    cases rv
    exact .inr ⟨_, rfl, qv_same q (.int _)⟩
  · cases e
/-- a power of any number -/
def gPowB : G2 := g2I fun i j => if 0 ≤ j ∧ (Builtin.Int.intBits i : Int) * j ≤ 2 ^ 27 then some (.int (i ^ j.toNat)) else none
theorem opl_powB : OpL X (binaryOp .Pow) gPowB := ⟨fun pins s σ H m S x y dx dy d v u I q rx ry ex ey e => by
  obtain ⟨i, j, e1, e2, e3⟩ := g2I_inv e
  split at e3
  · rename_i hz
    cases e3
    have h1 := vw_int rx e1
    have h2 := vw_int ry e2
    subst h1 h2
    obtain ⟨t, rfl⟩ := ex
    obtain ⟨t2, rfl⟩ := ey
    exact pow_int hz.1 hz.2 ⟨.int _, H, m, I.tok _, ⟨_, rfl⟩, Ext.refl, q, .int _⟩
  · cases e3⟩
end
/-! ### split, join, strip -/
section
variable {X : Cx}
def stSplit : GM := fun S r ds => match r, ds with
  | .str a, [.str b] => if (b.length == 0) = false ∧ a.length + 2 ≤ sizeLine then some (.lst ((Txt.split a b).map D.str), S) else none
  | _, _ => none
theorem mtl_split : MtL X "str.split" stSplit := ⟨fun pins s σ H m S S' x dx d xs ds v us I q r rs rv rvs e => by
  unfold stSplit at e
  split at e
  · rename_i a b
    split at e
    · rename_i hz
      cases e
      cases r
      obtain ⟨w, rfl, rw'⟩ := rs.one
      cases rw'
      exact thn (mt_split pins s σ H _ _ v us (QV X.K m H S _) I rv rvs ⟨a, b, rfl, rfl, hz.1, hz.2, fun p hp => qv_new q hp (vr_newLst q hp VRs.of_strs)⟩) fun _ _ z => vp_of z
    · cases e
  · cases e⟩
def stStripC : GM := fun S r ds => match r, ds with
  | .str a, [.str b] => if a.length ≤ sizeLine then some (.str (Txt.stripChars a b), S) else none
  | _, _ => none
def stJoin : GM := fun S r ds => match r, ds with
  | .str a, [d] => match vw S d with
    | .lst l => match strsD l with
      | some ys => if (ys.map (·.length)).sum + ys.length * a.length ≤ 16777216 then some (.str (Txt.join a ys), S) else none
      | none => none
    | _ => none
  | _, _ => none
theorem mtl_join : MtL X "str.join" stJoin := ⟨fun pins s σ H m S S' x dx d xs ds v us I q r rs rv rvs e => by
  unfold stJoin at e
  split at e
  · rename_i a d0
    split at e
    · rename_i l hl
      split at e
      · rename_i ys hs
        split at e
        · rename_i hz
          cases e
          cases r
          obtain ⟨w, rfl, rw'⟩ := rs.one
          have he := strsD_eq hs
          subst he
          obtain ⟨p, vs, rfl, h1, r1⟩ := vw_lst q rw' hl
          have hv := vrs_strs r1
          subst hv
          exact thn (mt_join pins s σ H _ _ v us (QV X.K m H S _) I rv rvs ⟨a, p, ys, rfl, rfl, .inl h1, hz, qv_same q (.str _)⟩) fun _ _ z => vp_of z
        · cases e
      · cases e
    · cases e
  · cases e⟩
variable {o e : Expr} {lo le : LE} {apos cpos : Pos}
theorem pel_split (ho : PEL X o lo) (he : PEL X e le)
    (hbase : attributeBase o "split" X.env (eval o X.env) = eval o X.env := by rfl)
    (hfew : ((backTo cpos (starEach [e] X.env)).all (fun x => !x.1) && (backToKw cpos (keywordEach [] X.env)).all (fun x => x.1.isSome)
      && decide ([e].length + ([] : List Keyword).length + (if ([] : List Keyword).isEmpty then 0 else 1) < 30)) = true := by rfl)
    (hline : (apos.endLine == cpos.line) = true := by rfl) (hs : starEach [e] X.env = (false, eval e X.env) :: starEach [] X.env := by rfl) :
    PEL X (.Call (.Attribute o "split" apos) [e] [] cpos) (lBM "str" stSplit lo (aCons le aNil)) :=
  pel_bm PySem.F.plainAttrs_str PySem.F.slot_str_split PySem.F.type_str_split mtl_split ho (pal_cons he pal_nil hs) hbase hfew hline hs
theorem pel_strjoin (ho : PEL X o lo) (he : PEL X e le)
    (hbase : attributeBase o "join" X.env (eval o X.env) = eval o X.env := by rfl)
    (hfew : ((backTo cpos (starEach [e] X.env)).all (fun x => !x.1) && (backToKw cpos (keywordEach [] X.env)).all (fun x => x.1.isSome)
      && decide ([e].length + ([] : List Keyword).length + (if ([] : List Keyword).isEmpty then 0 else 1) < 30)) = true := by rfl)
    (hline : (apos.endLine == cpos.line) = true := by rfl) (hs : starEach [e] X.env = (false, eval e X.env) :: starEach [] X.env := by rfl) :
    PEL X (.Call (.Attribute o "join" apos) [e] [] cpos) (lBM "str" stJoin lo (aCons le aNil)) :=
  pel_bm PySem.F.plainAttrs_str PySem.F.slot_str_join PySem.F.type_str_join mtl_join ho (pal_cons he pal_nil hs) hbase hfew hline hs
end
end MP

/-! zip of two; pairs of texts by < -/
namespace MP
open PySem PySem.Spec PyProof.Rows L2
def zipD (xs ys : List D) : List D := List.zipWith (fun x y => D.tup [x, y]) xs ys
theorem zipD_get {xs ys : List D} {i : Nat} {d : D} (h : (zipD xs ys)[i]? = some d) : ∃ x y, xs[i]? = some x ∧ ys[i]? = some y ∧ d = .tup [x, y] := by
  unfold zipD at h
  rw [List.getElem?_zipWith] at h
  cases q : xs[i]? with
  | none => rw [q] at h; cases h2 : ys[i]? <;> rw [h2] at h <;> cases h
  | some x =>
    cases q2 : ys[i]? with
    | none => rw [q, q2] at h; cases h
    | some y => rw [q, q2] at h; cases h; exact ⟨x, y, rfl, rfl, rfl⟩
theorem zipD_length (xs ys : List D) : (zipD xs ys).length = min xs.length ys.length := by simp [zipD]
section
variable {K : PySem.W.Frag} {m1 : List Addr} {H1 : Hp}
theorem sql_stays {v : V} {xs : List D} (w : VR K m1 H1 v (.lst xs)) : ∃ a vs, v = .ref a ∧ VRs K m1 H1 vs xs ∧ SqL K H1 a vs ∧ ∀ (m2 : List Addr) (H2 Hx : Hp), Ext m1 H1 m2 H2 → (∀ a o, H2 a = some o → Hx a = some o) → SqL K Hx a vs := by
  cases w with
  | @lst a vs _ n h r =>
    refine ⟨a, vs, rfl, r, .inl h, fun m2 H2 Hx e sup => ?_⟩
    have h2 := e.rd n h
    rcases h2 with h2 | ⟨o, h2⟩
    · exact .inl (.inl (sup _ _ h2))
    · exact .inl (.inr ⟨o, sup _ _ h2⟩)
  | @lstK a vs _ ob its n hk h1 h2 h3 h4 h5 r => exact ⟨a, vs, rfl, r, .inr ⟨ob, its, n, hk, h1, h2, h3, h4, h5⟩, fun _ _ _ _ _ => .inr ⟨ob, its, n, hk, h1, h2, h3, h4, h5⟩⟩
theorem sqt_stays (mu : ∀ a ∈ m1, Mut (H1 a)) {v : V} {xs : List D} (w : VR K m1 H1 v (.tup xs)) : ∃ a vs, v = .ref a ∧ VRs K m1 H1 vs xs ∧ SqT K H1 a vs ∧ ∀ (m2 : List Addr) (H2 Hx : Hp), Ext m1 H1 m2 H2 → (∀ a o, H2 a = some o → Hx a = some o) → SqT K Hx a vs := by
  cases w with
  | @tup a vs _ h r => exact ⟨a, vs, rfl, r, SqT.of h, fun m2 H2 Hx e sup => SqT.of (sup _ _ (tup_ext e mu h))⟩
theorem sqf_stays (mu : ∀ a ∈ m1, Mut (H1 a)) {v : V} {xs : List D} (w : VR K m1 H1 v (.ftup xs)) : ∃ a vs, v = .ref a ∧ VRs K m1 H1 vs xs ∧ SqT K H1 a vs ∧ ∀ (m2 : List Addr) (H2 Hx : Hp), Ext m1 H1 m2 H2 → (∀ a o, H2 a = some o → Hx a = some o) → SqT K Hx a vs := by
  cases w with
  | @ftup a vs _ o hd h r => exact ⟨a, vs, rfl, r, SqT.rd (.inr ⟨o, h⟩), fun m2 H2 Hx e sup => SqT.rd (.inr ⟨o, sup _ _ (frz_ext e mu h)⟩)⟩
theorem yl_zip {a b : Addr} {vs ws : List V} {xs ys : List D} (mu : ∀ a ∈ m1, Mut (H1 a)) (ha : ∀ (m2 : List Addr) (H2 Hx : Hp), Ext m1 H1 m2 H2 → (∀ a o, H2 a = some o → Hx a = some o) → SqL K Hx a vs) (hb : ∀ (m2 : List Addr) (H2 Hx : Hp), Ext m1 H1 m2 H2 → (∀ a o, H2 a = some o → Hx a = some o) → SqL K Hx b ws)
    (r : VRs K m1 H1 vs xs) (r' : VRs K m1 H1 ws ys) : Ylds K (Itz K a b) m1 H1 ⟨zipD xs ys, fun _ => True⟩ := fun m2 H2 S2 Hx e x _ sup => by
  have h3 := ha m2 H2 Hx e sup
  have h4 := hb m2 H2 Hx e sup
  have r2 := r.ext e mu
  have r3 := r'.ext e mu
  refine ⟨fun i d hi => ?_, fun i hi => ⟨vs, ws, h3, h4, ?_⟩⟩
  · obtain ⟨y, z, hy, hz, rfl⟩ := zipD_get hi
    obtain ⟨v, hv, w⟩ := r2.getr hy
    obtain ⟨v2, hv2, w2⟩ := r3.getr hz
    refine ⟨⟨vs, ws, v, v2, h3, h4, hv, hv2⟩, fun z H' q => .inr ?_⟩
    obtain ⟨T, z1, z2, ez, hT, eH, q1, q2⟩ := q
    have e1 := q1 vs h3
    have e2 := q2 ws h4
    rw [hv] at e1
    rw [hv2] at e2
    cases e1
    cases e2
    exact ⟨T, [v, v2], _, hT, eH, ez, rfl, .cons w (.cons w2 .nil)⟩
  · have hi' : min xs.length ys.length ≤ i := by rw [← zipD_length]; exact hi
    rw [r.length, r'.length]
    omega
theorem yl_zipT {a b : Addr} {vs ws : List V} {xs ys : List D} (mu : ∀ a ∈ m1, Mut (H1 a)) (ha : ∀ (m2 : List Addr) (H2 Hx : Hp), Ext m1 H1 m2 H2 → (∀ a o, H2 a = some o → Hx a = some o) → SqT K Hx a vs) (hb : ∀ (m2 : List Addr) (H2 Hx : Hp), Ext m1 H1 m2 H2 → (∀ a o, H2 a = some o → Hx a = some o) → SqT K Hx b ws)
    (r : VRs K m1 H1 vs xs) (r' : VRs K m1 H1 ws ys) : Ylds K (RZ.ItzT K a b) m1 H1 ⟨zipD xs ys, fun _ => True⟩ := fun m2 H2 S2 Hx e x _ sup => by
  have h3 := ha m2 H2 Hx e sup
  have h4 := hb m2 H2 Hx e sup
  have r2 := r.ext e mu
  have r3 := r'.ext e mu
  refine ⟨fun i d hi => ?_, fun i hi => ⟨vs, ws, h3, h4, ?_⟩⟩
  · obtain ⟨y, z, hy, hz, rfl⟩ := zipD_get hi
    obtain ⟨v, hv, w⟩ := r2.getr hy
    obtain ⟨v2, hv2, w2⟩ := r3.getr hz
    refine ⟨⟨vs, ws, v, v2, h3, h4, hv, hv2⟩, fun z H' q => .inr ?_⟩
    obtain ⟨T, z1, z2, ez, hT, eH, q1, q2⟩ := q
    have e1 := q1 vs h3
    have e2 := q2 ws h4
    rw [hv] at e1
    rw [hv2] at e2
    cases e1
    cases e2
    exact ⟨T, [v, v2], _, hT, eH, ez, rfl, .cons w (.cons w2 .nil)⟩
  · have hi' : min xs.length ys.length ≤ i := by rw [← zipD_length]; exact hi
    rw [r.length, r'.length]
    omega
end
def zipOf : List D → Option (List D)
  | [.lst xs, .lst ys] => some (zipD xs ys)
  | [.tup xs, .tup ys] => some (zipD xs ys)
  | [.ftup xs, .tup ys] => some (zipD xs ys)
  | [.ftup xs, .ftup ys] => some (zipD xs ys)
  | _ => none
def lZip (t : LA) : LI := fun ρ S => (t ρ S).bind fun ds S1 => match zipOf ds with
  | some items => .ok ⟨items, fun _ => True⟩ S1
  | none => .bad
section
variable {X : Cx} {e e2 : Expr} {t : LA} {p pos tpos : Pos} {elts : List Expr} {kk : Nat}
theorem pil_zip (hg : Gl X "zip") (hm : X.mg "zip" = none) (ha : PAL X [e, e2] t)
    (hs : starEach [e, e2] X.env = (false, eval e X.env) :: starEach [e2] X.env := by rfl) (hpl : (backTo pos (starEach [e2] X.env)).any (·.1) = false := by rfl) :
    PIL X (.Tuple elts kk tpos) (.Call (.Name "zip" p) [e, e2] [] pos) (lZip t) := by
  refine ⟨fun pins s σ H Rr I ⟨m, ρ, S, x, er, hp, k⟩ => ?_⟩
  refine (RZ.pi_zipA (elts := elts) (kk := kk) (tpos := tpos) (p := p) (pos := pos) hg hm ha.pa hs hpl).run pins s σ H Rr I ⟨m, ρ, S, x, er, hope_seq hp, fun ds S1 q vs H1 m1 e1 x1 w => ?_⟩
  unfold lZip at hp
  rw [q, bind_ok] at hp
  cases hz : zipOf ds with
  | none => rw [hz] at hp; exact absurd rfl hp.1
  | some items =>
    have e0 : lZip t ρ S = .ok ⟨items, fun _ => True⟩ S1 := by unfold lZip; rw [q, bind_ok, hz]
    unfold zipOf at hz
    split at hz
    · cases hz
      obtain ⟨y, z, rfl, w1, w2⟩ := w.two
      obtain ⟨a, us, rfl, r1, h1, st1⟩ := sql_stays w1
      obtain ⟨b, ws, rfl, r2, h2, st2⟩ := sql_stays w2
      exact ⟨a, b, us, ws, rfl, .inl ⟨h1, h2, k _ S1 e0 _ H1 m1 e1 x1 (yl_zip x1.muts st1 st2 r1 r2)⟩⟩
    · cases hz
      obtain ⟨y, z, rfl, w1, w2⟩ := w.two
      obtain ⟨a, us, rfl, r1, h1, st1⟩ := sqt_stays x1.muts w1
      obtain ⟨b, ws, rfl, r2, h2, st2⟩ := sqt_stays x1.muts w2
      exact ⟨a, b, us, ws, rfl, .inr ⟨h1, h2, k _ S1 e0 _ H1 m1 e1 x1 (yl_zipT x1.muts st1 st2 r1 r2)⟩⟩
    · cases hz
      obtain ⟨y, z, rfl, w1, w2⟩ := w.two
      obtain ⟨a, us, rfl, r1, h1, st1⟩ := sqf_stays x1.muts w1
      obtain ⟨b, ws, rfl, r2, h2, st2⟩ := sqt_stays x1.muts w2
      exact ⟨a, b, us, ws, rfl, .inr ⟨h1, h2, k _ S1 e0 _ H1 m1 e1 x1 (yl_zipT x1.muts st1 st2 r1 r2)⟩⟩
    · cases hz
      obtain ⟨y, z, rfl, w1, w2⟩ := w.two
      obtain ⟨a, us, rfl, r1, h1, st1⟩ := sqf_stays x1.muts w1
      obtain ⟨b, ws, rfl, r2, h2, st2⟩ := sqf_stays x1.muts w2
      exact ⟨a, b, us, ws, rfl, .inr ⟨h1, h2, k _ S1 e0 _ H1 m1 e1 x1 (yl_zipT x1.muts st1 st2 r1 r2)⟩⟩
    · cases hz
/-! ### pairs of texts by < -/
def ltP (a b c d : Str) : Bool := if a = c then (if b = d then false else decide (b.cps.toList < d.cps.toList)) else decide (a.cps.toList < c.cps.toList)
def gLtP : G2 := g2T fun xs ys => match xs, ys with
  | [.str a, .str b], [.str c, .str d] => some (.bl (ltP a b c d))
  | _, _ => none
theorem rc_lt_str {A : Around} {s : Shared} (a b : Str) (t u : Tok) : Ob.RcOp .Lt A s (.str a t) (.str b u) (decide (a.cps.toList < b.cps.toList)) := fun _ _ _ _ h => by
  show wpAny _ _ (compareOp .Lt (.str a t) (.str b u)) _ _ _
  exact PyProof.Rows.lt_str h
theorem opl_ltP (hu : X.A.units + 64 < cLine) : OpL X (compareOp .Lt) gLtP := ⟨fun pins s σ H m S x y dx dy d v u I q rx ry ex ey e0 => by
  obtain ⟨xs, ys, e1, e2, e3⟩ := (show ∃ i j, vw S dx = .tup i ∧ vw S dy = .tup j ∧ _ from g2T_inv e0)
  split at e3
  · rename_i a b c d'
    cases e3
    obtain ⟨p, vs, rfl, h1, r1⟩ := vw_tup rx e1
    obtain ⟨p2, ws, rfl, h2, r2⟩ := vw_tup ry e2
    obtain rfl : v = Value.ref p := ex
    obtain rfl : u = Value.ref p2 := ey
    obtain ⟨v1, v2, rfl, w1, w2⟩ := r1.two
    obtain ⟨z1, z2, rfl, k1, k2⟩ := r2.two
    cases w1
    cases w2
    cases k1
    cases k2
    obtain ⟨its, rv, pp, hz⟩ := I.tuple (SqT.of h1)
    obtain ⟨its2, rv2, pp2, hz2⟩ := I.tuple (SqT.of h2)
    cases rv with
    | cons ra rr =>
      cases rr with
      | cons rb rn =>
        cases rn
        obtain ⟨ta, rfl⟩ := ra
        obtain ⟨tb, rfl⟩ := rb
        cases rv2 with
        | cons rc rr2 =>
          cases rr2 with
          | cons rd rn2 =>
            cases rn2
            obtain ⟨tc, rfl⟩ := rc
            obtain ⟨td, rfl⟩ := rd
            have R := Ob.RcOp.tuples_lt (A := X.A) (s := s) (e := fun j => if j = 0 then (a == c) else (b == d')) (r := fun j => if j = 0 then decide (a.cps.toList < c.cps.toList) else decide (b.cps.toList < d'.cps.toList)) pp pp2 (by omega)
              (fun j h1 h2 => by
                match j, h1 with
                | 0, _ => exact SeqAt.EqAt.str_str a ta c tc
                | 1, _ => exact SeqAt.EqAt.str_str b tb d' td
                | n + 2, h => simp at h; omega)
              (fun j h1 h2 _ => by
                match j, h1 with
                | 0, _ => exact rc_lt_str a c ta tc
                | 1, _ => exact rc_lt_str b d' tb td
                | n + 2, h => simp at h; omega)
            have e5 : Ob.lexAt (fun j => if j = 0 then (a == c) else (b == d')) (fun j => if j = 0 then decide (a.cps.toList < c.cps.toList) else decide (b.cps.toList < d'.cps.toList)) (decide ([Value.str a ta, Value.str b tb].toArray.size < [Value.str c tc, Value.str d' td].toArray.size)) 0 (min [Value.str a ta, Value.str b tb].toArray.size [Value.str c tc, Value.str d' td].toArray.size) = ltP a b c d' := by
              show (if (a == c) = true then (if (b == d') = true then decide ((2 : Nat) < 2) else decide (b.cps.toList < d'.cps.toList)) else decide (a.cps.toList < c.cps.toList)) = ltP a b c d'
              unfold ltP
              simp
            rw [e5] at R
            exact R X.prog X.w X.xe _ ⟨.bl (ltP a b c d'), H, m, I, rfl, Ext.refl, q, .bl _⟩
  · cases e3⟩
def gLt2 : G2 := fun S x y => ((gLtI S x y).or (gLtS S x y)).or (gLtP S x y)
theorem opl_lt2 (hu : X.A.units + 64 < cLine) : OpL X (compareOp .Lt) gLt2 := (opl_ltI.or opl_ltS).or (opl_ltP hu)
def gLe2 : G2 := fun S x y => (gLeI S x y).or (gLeS S x y)
theorem opl_le2 : OpL X (compareOp .LtE) gLe2 := opl_leI.or opl_leS
def gGt2 : G2 := fun S x y => (gGtI S x y).or (gGtS S x y)
theorem opl_gt2 : OpL X (compareOp .Gt) gGt2 := opl_gtI.or opl_gtS
end
end MP

/-! len(set(texts)) of any number of texts (the road of HandS.Strs, which serves one text at most) -/
namespace MP
open PySem PySem.Spec PyProof.Rows L2
/-- how many of the first i texts are met for the first time -/
def cntS (xs : List Str) : Nat → Nat
  | 0 => 0
  | i + 1 => if (xs.take i).any (· == xs.getD i Str.empty) = true then cntS xs i else cntS xs i + 1
theorem cntS_le (xs : List Str) : ∀ i, cntS xs i ≤ i
  | 0 => Nat.le_refl _
  | i + 1 => by
    have := cntS_le xs i
    unfold cntS
    split <;> omega
abbrev metS (xs : List Str) (i : Nat) : Str → Bool := fun k => (xs.take i).any (· == k)
theorem met_succ {xs : List Str} {i : Nat} (h : i < xs.length) (k : Str) : metS xs (i + 1) k = (metS xs i k || decide (k = xs.getD i Str.empty)) := by
  unfold metS
  rw [List.take_succ_eq_append_getElem h, List.any_append]
  have e : xs.getD i Str.empty = xs[i] := by simp [h]
  rw [e]
  by_cases q : k = xs[i]
  · subst q; simp
  · have : (xs[i] == k) = false := beq_eq_false_iff_ne.mpr fun z => q z.symm
    simp [this, q]
section
variable {P : Program} {w : World} {A : Around} {R : Result → Shared → Prop} {E : Value → Shared → Prop} {s : Shared}
theorem loopS {It : Addr} {fp wr : List Addr} {G : Array GenState → Array GenState → Prop} {n : Nat} {Pv : Nat → Value → Prop} {St : Nat → Shared → Prop} (W : WalksS P w A.in1 It fp wr G n Pv St) (a : Addr) (ha : a ∉ fp) (xs : List Str) (hn : xs.length = n) (hz : n ≤ 4000)
    (hv : ∀ i v, Pv i v → ∃ t, v = .str (xs.getD i Str.empty) t) : ∀ (k i : Nat) (s : Shared), n - i = k → i ≤ n → St i s → s.heap.SetOf (PySem.strKind P w) a (metS xs i) (cntS xs i) →
      (∀ s', Moved (a :: wr) G s s' → s'.heap.SetOf (PySem.strKind P w) a (metS xs n) (cntS xs n) → R (.ok (.ret .none)) s') →
      codeAny (model P w) A (.builtin "set.update.loop" ⟨[.ref a, .ref It], []⟩) R s := by
  have naw : a ∉ wr := fun z => ha (W.sub _ z)
  have sub : ∀ b ∈ wr, b ∈ a :: wr := fun b hb => List.mem_cons_of_mem _ hb
  have stay : ∀ {h h' : Heap} {T : Str → Bool} {c : Nat}, (∀ o, h.get? a = some o → h'.get? a = some o) → h.SetOf (PySem.strKind P w) a T c → h'.SetOf (PySem.strKind P w) a T c := fun {h h' T c} k ⟨o, es, ep, t, e, r⟩ => ⟨o, es, ep, t, k o e, r⟩
  intro k
  induction k with
  | zero =>
    intro i s e0 hi st hS hR
    obtain rfl : i = n := by omega
    refine codeAny_builtin PyProof.Rows.F.entry_set_update_loop ?_
    rw [Around.under_plainId PyProof.Rows.F.plain_set_update_loop _]
    show wpAny _ A.in1 (pyNext (.ref It) >>= _) _ _ s
    exact wpAny_bind (W.done s _ _ st fun s' mv => wpAny_pure (hR s' (mv.mono sub) (stay (fun o e => mv.heap a _ naw e) hS)))
  | succ k ih =>
    intro i s e0 hi st hS hR
    have lt : i < n := by omega
    refine codeAny_builtin PyProof.Rows.F.entry_set_update_loop ?_
    rw [Around.under_plainId PyProof.Rows.F.plain_set_update_loop _]
    show wpAny _ A.in1 (pyNext (.ref It) >>= _) _ _ s
    refine wpAny_bind (W.item i s _ _ lt st fun v s' pv st' mv => ?_)
    obtain ⟨t, rfl⟩ := hv i v pv
    have hS' := stay (fun o e => mv.heap a _ naw e) hS
    show wpAny _ A.in1 (holding [Value.str (xs.getD i Str.empty) t] (setAdd a (.str (xs.getD i Str.empty) t)) >>= _) _ _ s'
    refine wpAny_bind (wpAny_holding ?_)
    unfold setAdd
    refine wpAny_holding (wpAny_bind ((PySem.strKind P w).pyHash (k := xs.getD i Str.empty) (strKind_is _ _ _ _) ?_))
    have hc := cntS_le xs i
    refine wpAny_setAddHashed_of (knd := PySem.strKind P w) (s := { s' with toks := s'.toks + 1 }) (strKind_is _ _ _ _) rfl hS' (by unfold scanBound; omega) fun h' hb hS2 => ?_
    have hS3 : h'.SetOf (PySem.strKind P w) a (metS xs (i + 1)) (cntS xs (i + 1)) := SetOf_congr hS2 (fun k => (met_succ (by omega) k).symm) rfl
    refine wpAny_pure ⟨plainId_quiet PyProof.Rows.F.plain_set_update_loop _, ih (i + 1) _ (by omega) lt (W.frame _ s' _ _ st' (Nat.le_succ _) fun b hb' o e => ?_) hS3 fun s'' mv2 hS4 => ?_⟩
    · rw [hb.2 b fun z : b = a => ha (by rw [← z]; exact hb')]; exact e
    · refine hR s'' (Moved.trans W.gtrans ((mv.mono sub).then_heap (Nat.le_succ _) fun b o hb' e => ?_) mv2) hS4
      rw [hb.2 b fun z : b = a => hb' (by rw [z]; exact List.mem_cons_self)]; exact e
set_option maxHeartbeats 3200000 in
theorem set_texts {l : Addr} {vs : Array Value} {xs : List Str} {Q : Value → Shared → Prop} (hd : A.handled = none) (hl : s.heap.IsList l vs) (hx : StrsAre vs.toList xs) (hz : xs.length ≤ 4000)
    (q : ∀ (h' : Heap) (tk : Nat), h'.SetOf (PySem.strKind P w) s.heap.objs.size (metS xs vs.size) (cntS xs vs.size) → (∀ b o, b < s.heap.objs.size → s.heap.get? b = some o → h'.get? b = some o) → Q (.ref s.heap.objs.size) { s with heap := h', toks := tk }) :
    wpAny (model P w) A (call (.type "set") [.ref l]) Q E s := by
  -- the new, empty set
  obtain ⟨N, hN⟩ : ∃ N : Bool → Heap, N = fun led => s.heap.push { cls := .type "set", dict := none, data := .set #[] 0 (.fresh 0 0 led) } := ⟨_, rfl⟩
  obtain ⟨c, tl, mro⟩ := PySem.F.called_set.mro
  have f1 := PySem.F.called_set.made
  have f2 := PySem.F.called_set.sub
  have f3 := PySem.F.called_set.notType
  have f4 := PySem.F.called_set.canCreate
  have f5 := PySem.F.typeCall_set_1 (.ref l)
  refine wpAny_call (codeAny_of_tree ?_)
  show wpAny _ _ (callAny (.type "set") _) _ _ _
  refine wpAny_pure ⟨Code.quiet_builtin _ (by decide +kernel), codeAny_builtin PySem.F.entry_type_call ?_⟩
  rw [Around.under_plain (weight_type_call_type "set" [.ref l] []) rfl]
  repeat (any_goals (first | assumption | wp_step))
  refine codeAny_mono (code_set_new_1 (.ref l) (E := E) (Q₁ := fun u s1 => ∃ led : Bool, u = .ref s.heap.objs.size ∧ s1 = { s with heap := s.heap.push { cls := .type "set", dict := none, data := .set #[] 0 (.fresh 0 0 led) } }) fun led => ⟨led, rfl, rfl⟩) fun r s1 hr => ?_
  rcases r with e | (_ | _ | _ | u)
  · exact hr
  · exact hr.elim
  · exact hr.elim
  · exact hr.elim
  obtain ⟨led, rfl, rfl⟩ := hr
  have at0 : (s.heap.push { cls := .type "set", dict := none, data := .set #[] 0 (.fresh 0 0 led) }).get? s.heap.objs.size = some { cls := .type "set", dict := none, data := .set #[] 0 (.fresh 0 0 led) } := Heap.get?_push_size _ rfl
  have ty0 : Shared.TypeIs { s with heap := s.heap.push { cls := .type "set", dict := none, data := .set #[] 0 (.fresh 0 0 led) } } (.ref s.heap.objs.size) "set" := ⟨_, at0, rfl⟩
  have g1 := PySem.F.called_set.init.lookup
  have g2 := PySem.F.called_set.init.bind (.ref s.heap.objs.size)
  repeat (any_goals (first | assumption | wp_step))
  refine codeAny_mono (codeAny_call_builtin (R := wants (fun r s2 => r = .none ∧ ∃ h' tk, s2 = { s with heap := h', toks := tk } ∧ h'.SetOf (PySem.strKind P w) s.heap.objs.size (metS xs vs.size) (cntS xs vs.size) ∧
    (∀ b o, b < s.heap.objs.size → s.heap.get? b = some o → h'.get? b = some o)) E) PySem.F.called_set.init.plain PySem.F.entry_set_init (check_set_init_1 ty0 ?_)) fun r2 s2 hr2 => ?_
  · obtain ⟨⟨lc, ld, lda, lsl⟩, el, ec, ln, ed⟩ := hl
    simp only at ec ed
    subst ec
    subst ed
    have hlt : l < s.heap.objs.size := Heap.lt_size el
    have el2 : (s.heap.push { cls := .type "set", dict := none, data := .set #[] 0 (.fresh 0 0 led) }).get? l = some { cls := .type "list", dict := ld, data := .seq vs ln, slots := lsl } := Heap.get?_push_of_some _ el
    have hl1 : (s.heap.push { cls := .type "set", dict := none, data := .set #[] 0 (.fresh 0 0 led) }).IsList l vs := ⟨_, el2, rfl, ln, rfl⟩
    have k1 := PySem.F.sub_list_set
    have k2 := PySem.F.sub_list_frozenset
    have k3 : (Value.type "list" == Value.type "dict") = false := by decide
    unfold Builtin.«set.__init__» noKeywords Builtin.Frozenset.updateFrom
    generalize hPI : pyIter = PI
    wp_walk
    subst hPI
    refine wpAny_pyIter_list hl1 (wpAny_bind (wpAny_runValue ?_))
    have hh3 : A.in1.in1.in1.handled = none := by simp [hd]
    have n1 : l ≠ (s.heap.push { cls := .type "set", dict := none, data := .set #[] 0 (.fresh 0 0 led) }).objs.size := by
      rw [Heap.size_push]; exact Nat.ne_of_lt (Nat.lt_succ_of_lt hlt)
    have n2 : s.heap.objs.size ∉ [(s.heap.push { cls := .type "set", dict := none, data := .set #[] 0 (.fresh 0 0 led) }).objs.size, l] := by
      rw [Heap.size_push]
      simp only [List.mem_cons, List.not_mem_nil, or_false, not_or]
      exact ⟨Nat.ne_of_lt (Nat.lt_succ_self _), Nat.ne_of_gt hlt⟩
    have hsz : xs.length = vs.size := by rw [← StrsAre.len_eq hx, Array.length_toList]
    refine loopS ((Walks.list hh3 _ l n1 vs).toS) s.heap.objs.size n2 xs hsz (by rw [← hsz]; exact hz) (fun i v hv => SS.strs_at hx i v (by rw [Array.getElem?_toList]; exact hv)) (vs.size - 0) 0 _ (by omega) (Nat.zero_le _) ⟨⟨_, Heap.get?_push_size _ rfl, rfl, rfl⟩, (hl1.push _)⟩ ?_ fun s' mv hS => ?_
    · exact SetOf_congr ((setObjOf_fresh (knd := PySem.strKind P w) led).setOf (Heap.get?_push_of_some _ at0) (by unfold scanBound; omega)) (fun _ => rfl) rfl
    · obtain ⟨h', g', d', tk', os'⟩ := s'
      have e1 : g' = s.gens := mv.gens
      have e2 : d' = s.drawn := mv.drawn
      have e3 : os' = s.os := mv.os
      subst e1
      subst e2
      subst e3
      show wpAny _ _ _ _ _ _
      refine wpAny_pure ?_
      show wpAny _ _ (ret Value.none) _ _ _
      refine wpAny_pure ⟨rfl, h', tk', rfl, hS, fun b o hb e => mv.heap b o ?_ (Heap.get?_push_of_some _ (Heap.get?_push_of_some _ e))⟩
      rw [Heap.size_push]
      simp only [List.mem_cons, List.not_mem_nil, or_false, not_or]
      exact ⟨Nat.ne_of_lt hb, Nat.ne_of_lt (Nat.lt_succ_of_lt hb)⟩
  · rcases r2 with e | (_ | _ | _ | u)
    · exact hr2
    · exact hr2.elim
    · exact hr2.elim
    · exact hr2.elim
    obtain ⟨rfl, h', tk, rfl, hS, hk⟩ := hr2
    repeat (any_goals (first | assumption | wp_step))
    exact q _ _ hS hk
end
/-- len(set(a list of texts)) -/
def gLenSet : GC := fun S ds => match ds with
  | [d] => match vw S d with
    | .lst l => match strsD l with
      | some ys => if ys.length ≤ 4000 then some (.int (cntS ys ys.length : Int)) else none
      | none => none
    | _ => none
  | _ => none
theorem pel_lenSet {X : Cx} {a : Expr} {t : LA} {p p2 q pos : Pos} (hc : X.calm = true) (hg : Gl X "len") (hm : X.mg "len" = none) (hg2 : Gl X "set") (hm2 : X.mg "set" = none) (ha : PAL X [a] t)
    (na : starEach [a] X.env = (false, eval a X.env) :: starEach [] X.env := by rfl) : PEL X (.Call (.Name "len" p) [.Call (.Name "set" p2) [a] [] q] [] pos) (lCallB gLenSet t) := by
  refine ⟨fun pins s σ H m ρ S I x r hp => ?_⟩
  refine Call_ (ld_blt I hg hm boot_len ?_)
  refine PyProof.Rows.callWith_builtin1 (PyProof.Rows.args_cons ?_ rfl) rfl rfl
  refine Call_ (ld_blt I hg2 hm2 boot_set ?_)
  refine PyProof.Rows.callWith_type1 (run_seqA ha I x r hp fun ds S1 q1 vs us s1 H1 m1 I1 rv e1 x1 w1 r1 hp1 => ?_) na rfl
  obtain ⟨d, q2⟩ := lift_ok hp1
  have e0 : lCallB gLenSet t ρ S = .ok d S1 := by unfold lCallB; rw [q1, bind_ok, q2]; rfl
  rw [e0]
  unfold gLenSet at q2
  split at q2
  · split at q2
    · rename_i l hl
      split at q2
      · rename_i ys hs
        split at q2
        · rename_i hz
          cases q2
          obtain ⟨v, rfl, w⟩ := w1.one
          have he := strsD_eq hs
          subst he
          obtain ⟨b, ws, rfl, h1, r2⟩ := vw_lst x1 w hl
          have hv := vrs_strs r2
          subst hv
          rw [Vals.ref1 rv]
          obtain ⟨its, rv2, pl, hz2⟩ := I1.list h1
          have hlen : its.toArray.size = ys.length := by rw [List.size_toArray, ← rv2.length, List.length_map]
          refine set_texts (I1.ok.hd hc) pl.isList (by simpa using strs_of_vals rv2) hz fun h' tk hS hk => ?_
          refine PyProof.Rows.args_nil ?_
          rw [hlen] at hS
          obtain ⟨o, es, ep, t', ho, hex, hd, _, _, hb, hf, hn⟩ := hS
          have I2 : Inv X pins σ H1 { s1 with heap := h', toks := tk } := I1.kept fun b o e => hk b o (Heap.lt_size e) e
          exact call_len_set ho hex hd hf (by unfold scanBound at hb; omega) ((vpr_of ⟨.int (cntS ys ys.length : Int), H1, m1, I2.tok _, ⟨_, by rw [hn]⟩, Ext.refl, x1, .int _⟩).left e1)
        · cases q2
      · cases q2
    · cases q2
  · cases q2
end MP

/-! x[::-1], x[a:b] * k, a, b, c = .., isinstance(e, (C, ..)) of an exception -/
namespace MP
open PySem PySem.Spec PyProof.Rows L2
theorem VRs.reverse {K : PySem.W.Frag} {m : List Addr} {H : Hp} : ∀ {vs : List V} {ds : List D}, VRs K m H vs ds → VRs K m H vs.reverse ds.reverse
  | _, _, .nil => .nil
  | _, _, .cons h r => by
    rw [List.reverse_cons, List.reverse_cons]
    exact r.reverse.append (.cons h .nil)
theorem VRs.rep {K : PySem.W.Frag} {m : List Addr} {H : Hp} {vs : List V} {ds : List D} (r : VRs K m H vs ds) : ∀ n : Nat, VRs K m H (List.replicate n vs).flatten (List.replicate n ds).flatten
  | 0 => .nil
  | n + 1 => by
    rw [List.replicate_succ, List.replicate_succ, List.flatten_cons, List.flatten_cons]
    exact r.append (r.rep n)
/-- a text backwards, as the model says it -/
def revS (z : Str) : Str := ⟨((Builtin.Str.strSliceIndices none none (-1) z.length).filterMap (z.cps[·]?)).toArray⟩
def gRev (S : Sto) (d : D) : Option D := match vw S d with
  | .lst xs => some (.lst xs.reverse)
  | .str z => if (revS z).length ≤ sizeLine then some (.str (revS z)) else none
  | _ => none
section
variable {X : Cx} {e b : Expr} {le lb : LE} {k : Nat} {p1 p2 p3 pos : Pos}
/-! ### a, b, c = .. -/
def lPar3 (i j l : Nat) (t : LA) : LS := fun ρ S => liftX ρ (t ρ S) fun ds S1 => match ds with
  | [a, b, c] => .ok (.nx (((ρ.set i (some a)).set j (some b)).set l (some c))) S1
  | _ => .bad
/-! ### isinstance of an exception and a tuple of classes -/
open Classical in
noncomputable def tabT (K : PySem.W.Frag) (cs : List Value) : Addr → Option Bool := fun D => if ExcC K D then PySem.W.kitAny K (.ref D) cs else none
structure IsTOk (K : PySem.W.Frag) (cs : List Value) (tab : Addr → Option Bool) : Prop where
  one : ∀ C b, tab C = some b → PySem.W.kitAny K (.ref C) cs = some b ∧ ExcC K C
theorem tabT_ok (K : PySem.W.Frag) (cs : List Value) : IsTOk K cs (tabT K cs) := ⟨fun C b h => by
  unfold tabT at h
  split at h
  · exact ⟨h, ‹_›⟩
  · cases h⟩
def refsV (Cs : List Addr) : List V := Cs.map V.ref
def refsU (Cs : List Addr) : List Value := Cs.map Value.ref
theorem vals_refsV : ∀ {Cs : List Addr} {us : List Value}, Vals (refsV Cs) us → us = refsU Cs
  | [], _, .nil => rfl
  | C :: Cs, _, .cons h r => by
    obtain rfl : _ = Value.ref C := h
    rw [vals_refsV r]
    rfl
theorem pel_isT {tab : Addr → Option Bool} {l : LE} {es : List Expr} {tx : Nat} {ta : TA} {p pt : Pos} {Cs : List Addr} (hg : Gl X "isinstance") (hm : X.mg "isinstance" = none) (he : PEL X e l) (hc : PA X es ta)
    (hta : ∀ σ H (Q : List V → Hp → Prop), Q (refsV Cs) H → ta σ H Q) (hz : Cs.length ≤ 1000) (ok : IsTOk X.K (refsU Cs) tab)
    (hs : starEach [e, .Tuple es tx pt] X.env = (false, eval e X.env) :: starEach [.Tuple es tx pt] X.env := by rfl) (hs2 : starEach [.Tuple es tx pt] X.env = (false, eval (.Tuple es tx pt) X.env) :: starEach [] X.env := by rfl)
    (hpl : (backTo pos (starEach [.Tuple es tx pt] X.env)).any (·.1) = false := by rfl) : PEL X (.Call (.Name "isinstance" p) [e, .Tuple es tx pt] [] pos) (lIsE tab l) := by
  refine ⟨fun pins s σ H m ρ S I x r hp => ?_⟩
  refine wpAny_Call_Name_kw (ld_blt I hg hm (u := .builtin "isinstance") (by decide +kernel) ?_ (by decide) (by decide))
  refine PyProof.Rows.callWith_builtin1 ?_ hs hpl
  rw [hs]
  show wpAny _ _ (spliced ((false, eval e X.env) :: backTo pos (starEach [.Tuple es tx pt] X.env))) _ _ s
  refine Calls.spliced_cons (run_seq he I x r hp fun d S1 q1 v u s1 H1 m1 I1 rv e1 x1 w1 r1 hp1 => ?_)
  rw [hs2]
  show wpAny _ _ (spliced ((false, eval (.Tuple es tx pt) X.env) :: backTo pos (starEach [] X.env))) _ _ s1
  have hT := (pe_tup (pos := pt) (x1 := tx) hc).run pins s1 σ H1 (fun v' H' => ∃ T, H1 T = none ∧ v' = .ref T ∧ H' = upd H1 T (.tup (refsV Cs))) I1 (hta σ H1 _ ⟨by unfold refsV; rw [List.length_map, sizeLine_eq]; omega, fun T hn => ⟨T, hn, rfl, rfl⟩⟩)
  refine Calls.spliced_cons (thn hT fun u2 s2 ⟨v2, H2, I2, rv2, T, hn, ev, eH⟩ => ?_)
  subst ev
  subst eH
  refine Calls.spliced_nil ?_
  obtain ⟨d', q2⟩ := lift_ok hp1
  have e0 : lIsE tab l ρ S = .ok d' S1 := by unfold lIsE; rw [q1, bind_ok, q2]; rfl
  rw [e0]
  unfold gIsE at q2
  split at q2
  · rename_i C gs q3
    cases qb : tab C with
    | none => rw [qb] at q2; cases q2
    | some b =>
      rw [qb] at q2
      cases q2
      obtain ⟨qb, hE⟩ := ok.one C b qb
      have w2 := w1.fresh x1 hn (o := .tup (refsV Cs))
      obtain ⟨a, ox, od, rfl, J, _⟩ := exn_inst I2 (vw_exn w2 (by first | exact q3 | (exact q3)))
      obtain rfl : u = Value.ref a := rv
      obtain rfl : u2 = Value.ref T := rv2
      obtain ⟨its, ri, ⟨⟨tc, td, tda, tsl⟩, ho, hc1, n, hd⟩, hz2⟩ := I2.tuple (SqT.of (show upd H1 T (.tup (refsV Cs)) T = some (.tup (refsV Cs)) from upd_same))
      simp only at hc1 hd
      subst hc1
      subst hd
      have ei := vals_refsV ri
      subst ei
      exact PySem.W.kia_tup (PySem.W.kitx_excD hE.hg hE.hk hE.hs hE.hd hE.ha hE.hn hE.ht hE.hm) I2.kIn J ho qb (fun z => nomatch z) fun tk => ⟨_, S1, rfl, .bl b, _, m1, I2.tok tk, rfl, e1.trans (Ext.fresh hn), x1.fresh hn, .bl b⟩
  · cases q2
theorem ist_ok {K : PySem.W.Frag} {cs : List Value} {D : Addr} {b : Bool} {l : LE} {ρ : Ev} {S S1 : Sto} {fs : List (Str × MP.D)} (E : ExcC K D) (h : PySem.W.kitAny K (.ref D) cs = some b) (hl : l ρ S = .ok (.exn D fs) S1) : lIsE (tabT K cs) l ρ S = .ok (.bl b) S1 := by
  unfold lIsE
  rw [hl, bind_ok]
  show lift1 ((tabT K cs D).map .bl) S1 = _
  unfold tabT
  rw [if_pos E, h]; rfl
end
end MP

/-! a list's slice times a number -/
namespace MP
open PySem PySem.Spec PyProof.Rows L2
def lSlMul (la : LE) (lo hi : LO) (lb : LE) : LE := fun ρ S => (la ρ S).bind fun d S1 => (lo ρ S1).bind fun i S2 => (hi ρ S2).bind fun j S3 => match vw S3 d with
  | .lst xs => (lb ρ S3).bind fun y S4 => match y with
    | .int k => if 0 ≤ k ∧ k ≤ 1000 ∧ (cutD xs i j).length * k.toNat ≤ sizeLine then .ok (.lst (List.replicate k.toNat (cutD xs i j)).flatten) S4 else .bad
    | _ => .bad
  | _ => .bad
section
variable {X : Cx} {e b : Expr} {l lb : LE} {pos pos2 : Pos}
end
end MP

/-! small things -/
namespace MP
open PySem PySem.Spec PyProof.Rows L2
def lBad : LS := fun _ _ => .bad
/-- a statement that is never reached -/
theorem psl_bad {X : Cx} {st : Stmt} : PSL X st lBad := ⟨fun pins s σ H D I ⟨m, ρ, S, x, er, hl, h⟩ => by
  obtain ⟨fl, S', q⟩ := h.ok
  cases q⟩
def tabStr : Tab
  | .str => some true
  | _ => none
def tabTup : Tab
  | .tup => some true
  | _ => none
/-! ### how the words compute -/
theorem add2_ii {S : Sto} {i j : Int} : gAdd2 S (.int i) (.int j) = some (.int (i + j)) := rfl
theorem add2_ss {S : Sto} {i j : Str} (h : i.length + j.length ≤ sizeLine) : gAdd2 S (.str i) (.str j) = some (.str (i ++ j)) := by
  show (((if i.length + j.length ≤ sizeLine then some (D.str (i ++ j)) else none).or (gCat S (.str i) (.str j))).or _) = _
  rw [if_pos h]; rfl
theorem catL {S : Sto} {a b : List D} {x y : D} {c : List D} (e1 : vw S x = .lst a) (e2 : vw S y = .lst b) (h : a ++ b = c) (hz : c.length ≤ 100000) (n1 : gAdd S x y = none := by rfl) : gAdd2 S x y = some (.lst c) := by
  unfold gAdd2 gCatL g2L
  rw [n1, e1, e2]
  show (if a.length + b.length ≤ sizeLine then some (D.lst (a ++ b)) else none) = _
  rw [if_pos (by rw [← List.length_append, h]; exact Nat.le_trans hz (by decide)), h]
theorem ife_tt {t : LT} {la lb : LE} {ρ : Ev} {S S1 : Sto} {r : R D} (h : t ρ S = .ok true S1) (h2 : la ρ S1 = r) : lIf t la lb ρ S = r := by
  unfold lIf; rw [h, bind_ok, if_pos rfl]; exact h2
theorem ife_ff {t : LT} {la lb : LE} {ρ : Ev} {S S1 : Sto} {r : R D} (h : t ρ S = .ok false S1) (h2 : lb ρ S1 = r) : lIf t la lb ρ S = r := by
  unfold lIf; rw [h, bind_ok, if_neg Bool.false_ne_true]; exact h2
theorem trya_ex {i : Nat} {tab : Addr → Option Bool} {lb ls : LS} {ρ ρ' ρ2 : Ev} {S S1 S2 : Sto} {C : Addr} {fs : List (Str × D)} (h : lb ρ S = .ok (.ex C fs ρ') S1) (ht : tab C = some true) (h2 : ls (ρ'.set i (some (.exn C fs))) S1 = .ok (.nx ρ2) S2) : lTryA i tab lb ls ρ S = .ok (.nx (ρ2.set i none)) S2 := by
  unfold lTryA
  rw [h, bind_ok]
  unfold catchH
  dsimp only
  rw [ht]
  dsimp only
  rw [h2, bind_ok]
  rfl
theorem trya_nx {i : Nat} {tab : Addr → Option Bool} {lb ls : LS} {ρ ρ' : Ev} {S S1 : Sto} (h : lb ρ S = .ok (.nx ρ') S1) : lTryA i tab lb ls ρ S = .ok (.nx ρ') S1 := by
  unfold lTryA
  rw [h, bind_ok]
  rfl
theorem andv_tt {la lb : LE} {ρ : Ev} {S S1 : Sto} {d : D} {r : R D} (h : la ρ S = .ok d S1) (ht : truth S1 d = some true) (h2 : lb ρ S1 = r) : lAndV la lb ρ S = r := by
  unfold lAndV; rw [h, bind_ok, ht]; exact h2
theorem asg_ok {g : GT} {l : LE} {ρ ρ1 : Ev} {S S1 : Sto} {d : D} (h : l ρ S = .ok d S1) (hg : g d ρ = some ρ1) : lAsg g l ρ S = .ok (.nx ρ1) S1 := by
  unfold lAsg; rw [h]
  show (match g d ρ with | some ρ1 => R.ok (Fl.nx ρ1) S1 | none => .bad) = _
  rw [hg]
theorem chain_tt {g g' : G2} {la lb lc : LE} {ρ : Ev} {S S1 S2 S3 : Sto} {x y z d : D} (h1 : la ρ S = .ok x S1) (h2 : lb ρ S1 = .ok y S2) (h3 : g S2 x y = some (.bl true)) (h4 : lc ρ S2 = .ok z S3) (h5 : g' S3 y z = some d) : lChain g g' la lb lc ρ S = .ok d S3 := by
  unfold lChain; rw [h1, bind_ok, h2, bind_ok, h3]
  show ((lc ρ S2).bind fun z S4 => lift1 (g' S4 y z) S4) = _
  rw [h4, bind_ok, h5]; rfl
theorem slice_ok {g : Sto → D → Option Int → Option Int → Option D} {la : LE} {lo hi : LO} {ρ : Ev} {S S1 S2 S3 : Sto} {d e : D} {i j : Option Int} (h1 : la ρ S = .ok d S1) (h2 : lo ρ S1 = .ok i S2) (h3 : hi ρ S2 = .ok j S3) (h4 : g S3 d i j = some e) : lSlice g la lo hi ρ S = .ok e S3 := by
  unfold lSlice; rw [h1, bind_ok, h2, bind_ok, h3, bind_ok, h4]; rfl
theorem osome_ok {l : LE} {ρ : Ev} {S S1 : Sto} {i : Int} (h : l ρ S = .ok (.int i) S1) : oSome l ρ S = .ok (some i) S1 := by
  unfold oSome; rw [h]; rfl
/-- a comprehension with a test -/
theorem comp_skip {ρ0 ρ1 : Ev} {chk : Sto → Prop} {g : GT} {tt : LT} {te : LE} {d : D} {ds : List D} {S S1 : Sto} {r : R (List D)} (hc : chk S) (hg : g d ρ0 = some ρ1) (ht : tt ρ1 S = .ok false S1) (h2 : compG chk g tt te ρ0 ds S1 = r) : compG chk g tt te ρ0 (d :: ds) S = r := by
  unfold compG; rw [if_pos hc, hg]; show (noex (tt ρ1 S)).bind _ = _; rw [ht]; exact h2
theorem comp_take {ρ0 ρ1 : Ev} {chk : Sto → Prop} {g : GT} {tt : LT} {te : LE} {d y : D} {ds ys : List D} {S S1 S2 S3 : Sto} (hc : chk S) (hg : g d ρ0 = some ρ1) (ht : tt ρ1 S = .ok true S1) (he : te ρ1 S1 = .ok y S2) (h2 : compG chk g tt te ρ0 ds S2 = .ok ys S3) : compG chk g tt te ρ0 (d :: ds) S = .ok (y :: ys) S3 := by
  unfold compG; rw [if_pos hc, hg]; show (noex (tt ρ1 S)).bind _ = _; rw [ht]
  show (noex (te ρ1 S1)).bind _ = _
  rw [he]
  show (compG chk g tt te ρ0 ds S2).bind _ = _
  rw [h2]; rfl
/-- over any items, some kept: the store stays -/
theorem comp_filter {α : Type} {chk : Sto → Prop} {g : GT} {tt : LT} {te : LE} {ρ0 : Ev} {S : Sto} {enc f : α → D} {p : α → Bool} (hc : chk S) : ∀ xs : List α, (∀ x ∈ xs, ∃ ρ1, g (enc x) ρ0 = some ρ1 ∧ tt ρ1 S = .ok (p x) S ∧ (p x = true → te ρ1 S = .ok (f x) S)) →
    compG chk g tt te ρ0 (xs.map enc) S = .ok ((xs.filter p).map f) S
  | [], _ => comp_end hc
  | x :: xs, h => by
    obtain ⟨ρ1, h1, h2, h3⟩ := h x (by simp)
    have ih := comp_filter (f := f) hc xs fun y hy => h y (by simp [hy])
    cases q : p x with
    | true =>
      rw [q] at h2
      rw [List.filter_cons_of_pos q, List.map_cons, List.map_cons]
      exact comp_take hc h1 h2 (h3 q) ih
    | false =>
      rw [q] at h2
      rw [List.filter_cons_of_neg (by rw [q]; exact Bool.false_ne_true), List.map_cons]
      exact comp_skip hc h1 h2 ih
theorem comp_map {α : Type} {chk : Sto → Prop} {g : GT} {te : LE} {ρ0 : Ev} {S : Sto} {enc f : α → D} (hc : chk S) (xs : List α) (h : ∀ x ∈ xs, ∃ ρ1, g (enc x) ρ0 = some ρ1 ∧ te ρ1 S = .ok (f x) S) : compG chk g tYesL te ρ0 (xs.map enc) S = .ok (xs.map f) S := by
  have := comp_filter (p := fun _ => true) (tt := tYesL) (f := f) hc xs fun x hx => by
    obtain ⟨ρ1, h1, h2⟩ := h x hx
    exact ⟨ρ1, h1, rfl, fun _ => h2⟩
  rw [List.filter_eq_self.mpr (fun _ _ => rfl)] at this
  exact this
theorem comp_okL {li : LI} {ix : List Nat} {g : GT} {tt : LT} {te : LE} {ρ : Ev} {S S1 S2 : Sto} {it : Its'} {ys : List D} (h : li ρ S = .ok it S1) (hl : it.items.length ≤ 100000) (h2 : compG it.chk g tt te (wipeE ρ ix) it.items S1 = .ok ys S2) : lComp li ix g tt te ρ S = .ok (.lst ys) S2 := by
  unfold lComp compL
  rw [h, bind_ok, if_pos (Nat.le_trans hl (by decide)), h2, bind_ok]
theorem vw_ref {S : Sto} {j : Nat} {xs : List D} (h : S[j]? = some (.lst xs)) : vw S (.ref j) = .lst xs := by unfold vw; dsimp only; rw [h]
theorem set_self {S : Sto} {j : Nat} {o o' : O} (h : S[j]? = some o) : (S.set j o')[j]? = some o' := List.getElem?_set_self (List.getElem?_eq_some_iff.mp h).1
theorem sml {c : Int} (a : 0 ≤ c) (b : c < 10 ^ 100) : Sm c := Sm.of a b (by decide +kernel)
theorem lx {j : Nat} {xs : List D} {S : Sto} {k : Int} {d : D} {ρ : Ev} {i : Nat} (h : S[j]? = some (.lst xs)) (hd : atI xs k = some d) (hv : lVar i ρ S = .ok (.ref j) S) : lBin gIx (lVar i) (lC (.int k)) ρ S = .ok d S := bin_ok hv rfl (ix_ref h hd)
end MP

/-! sets of texts with a table that can be walked: sorted(set(texts)) (the road that HandS.Set takes for ints) -/
namespace MP
open PySem PySem.Spec PyProof.Rows L2
def keyS (e : Int × Value) : Str := match e.2 with
  | .str k _ => k
  | _ => Str.empty
def GoodS (w : World) (e : Int × Value) : Prop := ∃ k tk, e.2 = Value.str k tk ∧ e.1 = hashStr w k
/-- the members, their number; the table rises -/
structure SetS (w : World) (h : Heap) (a : Addr) (T : Str → Bool) (n : Nat) : Prop where
  ex : ∃ o es ep t, h.get? a = some o ∧ o.ExactSet ∧ o.data = .set es ep t ∧ (∀ e ∈ es.toList, GoodS w e) ∧ (es.toList.map keyS).Nodup ∧ (∀ k, T k = true ↔ k ∈ es.toList.map keyS) ∧ es.size < scanBound ∧ t.fits es.size = true ∧ es.size = n ∧ Ris t.place.toList ∧ (w.params.followText "set-order" = true ∨ t.led = true)
section
variable {P : Program} {w : World} {h h' : Heap} {a : Addr} {T : Str → Bool} {n : Nat}
theorem SetS.keep (R : SetS w h a T n) (k : ∀ o, h.get? a = some o → h'.get? a = some o) : SetS w h' a T n := by
  obtain ⟨o, es, ep, t, ho, r⟩ := R.ex
  exact ⟨o, es, ep, t, k o ho, r⟩
end
section
variable {P : Program} {w : World} {A : Around} {E : Value → Shared → Prop} {s : Shared} {a : Addr} {T : Str → Bool} {n : Nat}
end
end MP

/-! set(texts) made of a list; sorted(set(texts)) -/
namespace MP
open PySem PySem.Spec PyProof.Rows L2
section
variable {P : Program} {w : World} {A : Around} {R : Result → Shared → Prop} {E : Value → Shared → Prop} {s : Shared}
def keyV : Value → Str
  | .str k _ => k
  | _ => Str.empty
end
end MP

/-! sorted(set(a list of texts)) as an expression -/
namespace MP
open PySem PySem.Spec PyProof.Rows L2
def nubS : List Str → List Str
  | [] => []
  | x :: r => if x ∈ r then nubS r else x :: nubS r
def leS (a b : Str) : Bool := decide (a.cps.toList ≤ b.cps.toList)
def srtS (ys : List Str) : List Str := (nubS ys).mergeSort leS
/-- sorted(set(a list of texts)) -/
def gSortSet : GC := fun S ds => match ds with
  | [d] => match vw S d with
    | .lst l => match strsD l with
      | some ys => if ys.length ≤ 4000 then some (.lst ((srtS ys).map D.str)) else none
      | none => none
    | _ => none
  | _ => none
end MP

/-! a list, a tuple, times a number -/
namespace MP
open PySem PySem.Spec PyProof.Rows L2
theorem q_mul_int (l : Addr) (items : Array Value) (n : Nat) (d : Option Addr) (sl : Array (Option Value)) (x : Int) (u : Tok) (hc0 : ¬(!Builtin.List.listFitsIndex x) = true)
    (hc1 : ¬items.size * x.toNat > (2 ^ 63 - 1) / 8) (hc2 : ¬Builtin.List.listTooLong (items.size * x.toNat) = true) :
    Meets (Builtin.«list.__mul__» ⟨[.ref l, .int x u], []⟩) (fun _ R s => s.heap.get? l = some { cls := .type "list", dict := d, data := .seq items n, slots := sl } ∧ R (.ok (.ret (Value.ref s.heap.objs.size))) { s with heap := s.heap.push { cls := Value.type "list", data := Data.seq (List.foldl (fun x1 x2 => x1 ++ x2) #[] (List.replicate (if items.isEmpty = true then 0 else x.toNat) items)) }, toks := s.toks }) :=
  .of_wp fun prog w A R s h => by
    obtain ⟨hp, g, d, tk, os⟩ := s; obtain ⟨hl, h⟩ := h
    have hsz := AutoListH.joined_fits hc2
    wp_walk; refine wpAny_ite_false (decide_eq_false (Nat.not_lt.mpr hsz)) ?_; wp_walk; exact ⟨_, rfl, h⟩
theorem q_rmul_int (a : Int) (t : Tok) (l : Addr) (items : Array Value) (n : Nat) (d : Option Addr) (sl : Array (Option Value)) :
    Meets (Builtin.«int.__rmul__» ⟨[.int a t, .ref l], []⟩) (fun _ R s => s.heap.get? l = some { cls := .type "list", dict := d, data := .seq items n, slots := sl } ∧ R (.ok (.ret Value.notImplemented)) s) :=
  .of_wp fun prog w A R s h => by obtain ⟨hp, g, d, tk, os⟩ := s; obtain ⟨hl, h⟩ := h; wp_walk; exact ⟨_, rfl, h⟩
theorem q_tup_empty (l : Addr) (n : Nat) (dd : Option Addr) (sl : Array (Option Value)) (x : Int) (u : Tok) (c0 : (decide (x < -(2 ^ 63)) || decide (x ≥ 2 ^ 63)) = false) :
    Meets (Builtin.«tuple.__mul__» ⟨[.ref l, .int x u], []⟩) (fun _ R s => s.heap.get? l = some { cls := .type "tuple", dict := dd, data := .seq #[] n, slots := sl } ∧ R (.ok (.ret (Value.ref l))) s) :=
  .of_wp fun prog w A R s h => by
    obtain ⟨hp, g, d, tk, os⟩ := s
    obtain ⟨hl, h⟩ := h
    have f1 := AutoSeq1.idx_int
    wp_walk using wpAny_loadPart' hl
    refine wpAny_ite_false (decide_eq_false (by rw [c0]; exact Bool.false_ne_true)) ?_
    wp_walk using wpAny_loadPart' hl
    exact ⟨_, rfl, h⟩
section
variable {X : Cx}
theorem op_repL : OpR X (binaryOp .Mult) (fun x y H Q => ∃ a xs k, x = V.ref a ∧ y = V.int k ∧ SqL X.K H a xs ∧ 0 ≤ k ∧ k ≤ 1000 ∧ xs.length * k.toNat ≤ 1000000 ∧ ∀ p, H p = none → Q (.ref p) (upd H p (.lst (List.replicate k.toNat xs).flatten))) := by
  intro pins s σ H x y v u Q I rx ry h
  obtain ⟨a, xs, k, rfl, rfl, hs, k0, k1, hm, q⟩ := h
  obtain rfl : v = Value.ref a := rx
  obtain ⟨t, rfl⟩ := ry
  obtain ⟨its, rv, ⟨⟨cls, dd, data, sl⟩, n, ho, hc, hdn, hd⟩, hlen⟩ := I.list hs
  have hc1 : cls = Value.type "list" := hc
  have hd1 : data = Data.seq its.toArray n := hd
  subst hc1 hd1
  have hsl := sizeLine_eq
  have hz : its.toArray.size * k.toNat ≤ 1000000 := by rw [List.size_toArray, ← rv.length]; exact hm
  have hfit : ¬(!Builtin.List.listFitsIndex k) = true := by
    rw [fitsIndex_both (by omega) (by omega)]
    exact Bool.false_ne_true
  refine wpAny_binaryOp_repeat_ref (T := "list") (U := "int") (by decide) ⟨_, ho, rfl⟩ (fun s' => typeIs_int s' k t) noFill_list_mul F.fills_int_mul F.slot_int_rmul repeat_list F.slot_int_index.lookup
    (call_meets F.slot_int_rmul (typeIs_int s k t) F.entry_int_rmul (F.args_int_rmul_2 _ _) (q_rmul_int k t a its.toArray n dd sl)
      ⟨ho, rfl, ⟨_, ho, rfl⟩, call_meets F.slot_list_mul ⟨_, ho, rfl⟩ F.entry_list_mul (F.args_list_mul_2 _ _)
        (q_mul_int a its.toArray n dd sl k t hfit (by omega) (by simp only [Builtin.List.listTooLong, decide_eq_true_eq]; omega))
        ⟨ho, ?_⟩⟩)
  have e : List.foldl (fun x1 x2 => x1 ++ x2) #[] (List.replicate (if its.toArray.isEmpty = true then 0 else k.toNat) its.toArray) = (List.replicate k.toNat its).flatten.toArray := by
    rw [listMul_foldl_if]
  rw [e]
  refine ⟨.ref s.heap.objs.size, _, I.laid (t' := s.toks) (o := .lst (List.replicate k.toNat xs).flatten) (fun b o e => Heap.get?_push_of_some _ e) (Nat.le_refl _) ⟨?_, _, 0, rv.rep k.toNat, Heap.get?_push_size _ rfl⟩, rfl, q _ (I.hok.fresh (Nat.le_refl _))⟩
  rw [PyProof.Rows.lm_len_rep_flat, Nat.mul_comm]
  omega
theorem op_repE : OpR X (binaryOp .Mult) (fun x y H Q => ∃ a k, x = V.ref a ∧ y = V.int k ∧ SqT X.K H a [] ∧ 0 ≤ k ∧ k ≤ 1000 ∧ Q (.ref a) H) := by
  intro pins s σ H x y v u Q I rx ry h
  obtain ⟨a, k, rfl, rfl, hT, k0, k1, q⟩ := h
  obtain rfl : v = Value.ref a := rx
  obtain ⟨t, rfl⟩ := ry
  obtain ⟨its, r, ⟨⟨cls, dd, data, sl⟩, ho, hc, n, hd⟩, hs⟩ := I.tuple hT
  simp only at hc hd
  subst hc hd
  cases r
  have c0 : (decide (k < -(2 ^ 63)) || decide (k ≥ 2 ^ 63)) = false := by
    rw [decide_eq_false (by omega), decide_eq_false (by omega)]; rfl
  exact wpAny_binaryOp_repeat_ref (T := "tuple") (U := "int") (by decide) ⟨_, ho, rfl⟩ (fun s' => typeIs_int s' k t) noFill_tuple_mul F.fills_int_mul F.slot_int_rmul repeat_tuple F.slot_int_index.lookup
    (call_meets F.slot_int_rmul (typeIs_int s k t) F.entry_int_rmul (F.args_int_rmul_2 _ _) (int_rmul_tuple k t a #[] n dd sl)
      ⟨ho, rfl, ⟨_, ho, rfl⟩, call_meets F.slot_tuple_mul ⟨_, ho, rfl⟩ F.entry_tuple_mul (F.args_tuple_mul_2 _ _) (q_tup_empty a n dd sl k t c0) ⟨ho, ⟨.ref a, H, I, rfl, q⟩⟩⟩)
def gRepL : G2 := fun S dx dy => match vw S dx, dy with
  | .lst xs, .int k => if 0 ≤ k ∧ k ≤ 1000 ∧ xs.length * k.toNat ≤ 1000000 then some (.lst (List.replicate k.toNat xs).flatten) else none
  | _, _ => none
def gRepT : G2 := fun S dx dy => match vw S dx, dy with
  | .tup (x :: xs), .int k => if 2 ≤ k ∧ k ≤ 1000 ∧ (x :: xs).length ≤ 1000 then some (.tup (List.replicate k.toNat (x :: xs)).flatten) else none
  | _, _ => none
def gRepE : G2 := fun S dx dy => match vw S dx, dy with
  | .tup [], .int k => if 0 ≤ k ∧ k ≤ 1000 then some (.tup []) else none
  | _, _ => none
theorem opl_repL : OpL X (binaryOp .Mult) gRepL := .of op_repL fun H m S x y dx dy d q rx ry e => by
  unfold gRepL at e
  split at e
  · rename_i xs k e1
    split at e
    · rename_i hz
      cases e
      obtain ⟨a, vs, rfl, h1, r⟩ := vw_lst q rx e1
      cases ry
      exact ⟨a, vs, k, rfl, rfl, h1, hz.1, hz.2.1, by rw [r.length]; exact hz.2.2, fun p hp => qv_new q hp (vr_newLst q hp (r.rep _))⟩
    · cases e
  · cases e
theorem opl_repT : OpL X (binaryOp .Mult) gRepT := .of op_repT fun H m S x y dx dy d q rx ry e => by
  unfold gRepT at e
  split at e
  · rename_i z xs k e1
    split at e
    · rename_i hz
      cases e
      obtain ⟨a, vs, rfl, h1, r⟩ := vw_tup rx e1
      cases ry
      have hl := r.length
      refine ⟨a, k, vs, rfl, rfl, SqT.of h1, fun z => ?_, hz.1, hz.2.1, by rw [hl]; exact hz.2.2, fun p hp => qv_new q hp (vr_newTup q hp (r.rep _))⟩
      rw [z] at hl
      cases hl
    · cases e
  · cases e
theorem opl_repE : OpL X (binaryOp .Mult) gRepE := .of op_repE fun H m S x y dx dy d q rx ry e => by
  unfold gRepE at e
  split at e
  · rename_i k e1
    split at e
    · rename_i hz
      cases e
      obtain ⟨a, vs, rfl, h1, r⟩ := vw_tup rx e1
      cases ry
      cases r
      exact ⟨a, k, rfl, rfl, SqT.of h1, hz.1, hz.2, qv_same q (.tup h1 .nil)⟩
    · cases e
  · cases e
/-- a list, a tuple, a number: times a number -/
def gMulX : G2 := fun S x y => ((gMulI S x y).or (gRepL S x y)).or ((gRepT S x y).or (gRepE S x y))
theorem opl_mulX : OpL X (binaryOp .Mult) gMulX := (opl_mulI.or opl_repL).or (opl_repT.or opl_repE)
end
end MP

/-! a tuple backwards -/
namespace MP
open PySem PySem.Spec PyProof.Rows L2 HT
section
variable {prog : Program} {w : World} {A : Around} {E : Value → Shared → Prop} {s : Shared}
end
def gRevT (S : Sto) (d : D) : Option D := match vw S d with
  | .tup xs => some (.tup xs.reverse)
  | _ => none
section
variable {X : Cx} {e b : Expr} {le lb : LE} {k : Nat} {p1 p2 p3 pos : Pos}
end
end MP

/-! list(a text): its signs -/
namespace MP
open PySem PySem.Spec PyProof.Rows L2
section
variable {prog : Program} {w : World} {A : Around} {E : Value → Shared → Prop} {s : Shared}
/-- the signs of a text, one by one -/
def sgsD (x : Str) : List D := x.cps.toList.map fun c => D.str ⟨#[c]⟩
end
/-- list(a text), put into the store -/
def lListS (t : LA) : LE := fun ρ S => (t ρ S).bind fun ds S1 => match ds with
  | [.str x] => if x.length ≤ 1000 then .ok (.ref S1.length) (S1 ++ [.lst (sgsD x)]) else .bad
  | _ => .bad
end MP

/-! i not in range(a, b) -/
namespace MP
open PySem PySem.Spec PyProof.Rows L2
section
variable {X : Cx}
def lNotRng (le : LE) (t : LA) : LE := fun ρ S => (le ρ S).bind fun x S1 => (t ρ S1).bind fun ds S2 => match x, ds with
  | .int i, [.int a, .int b] => .ok (.bl (!decide (a ≤ i ∧ i < b))) S2
  | _, _ => .bad
end
end MP

/-! {text: text}, its repr -/
namespace MP
open PySem PySem.Spec PyProof.Rows L2
section
variable {X : Cx}
theorem upd2 {H : Hp} {p : Addr} {a b : HO} : upd (upd H p a) p b = upd H p b := by
  funext q
  unfold upd
  split <;> rfl
def gReprK1 : GC := fun _ ds => match ds with
  | [.dct false [(.str k, .str v)]] => if (PyData.dict [(.str k, .str v)]).shown.length ≤ sizeLine then some (.str (PyData.dict [(.str k, .str v)]).shown) else none
  | _ => none
end
end MP

/-! isinstance of any datum: text, tuple -/
namespace MP
open PySem PySem.Spec PyProof.Rows L2
def tabStrA : Tab
  | .str => some true
  | .obj _ => none
  | _ => some false
theorem isi_strA {K : PySem.W.Frag} : IsiOk K (.type "str") tabStrA := ⟨fun t b h => by
  cases t with
  | obj C => cases h
  | _ => first
    | (cases h; exact ⟨kit_ty (by decide +kernel), fun C z => nomatch z⟩)
    | skip⟩
def tabTupA : Tab
  | .tup => some true
  | .obj _ => none
  | _ => some false
theorem isi_tupleA {K : PySem.W.Frag} : IsiOk K (.type "tuple") tabTupA := ⟨fun t b h => by
  cases t with
  | obj C => cases h
  | _ => first
    | (cases h; exact ⟨kit_ty (by decide +kernel), fun C z => nomatch z⟩)
    | skip⟩
end MP

/-! sets of tuples of numbers and texts: the search, an insertion (HandS.TupSets has them for tuples of ints) -/
namespace MP
open PySem PySem.Spec PyProof.Rows L2
/-- the hash of such a tuple -/
abbrev hT (P : Program) (w : World) (k : List Key) : Int := tupleKeyHash (mixKind P w) k
abbrev TuK (P : Program) (w : World) (h : Heap) (k : List Key) (a : Addr) : Prop := IsTupleKey (mixKind P w) h k a
/-- the probe behind c steps -/
abbrev stp (t : SetTable) (h : Int) (c : Nat) : SetTable.Probe := nth t.mask (t.probeStart h) c
theorem stp_dummy (t : SetTable) (h : Int) (c : Nat) : (stp t h c).dummy = none := by
  have key : ∀ (n : Nat) (p : SetTable.Probe), p.dummy = none → (nth t.mask p n).dummy = none := fun n => by
    induction n with
    | zero => exact fun p q => q
    | succ n ih =>
      refine fun p q => ih (adv t.mask p) ?_
      unfold adv
      split
      · exact q
      · exact q
  exact key c _ rfl
theorem stp_add (t : SetTable) (h : Int) (c q : Nat) : nth t.mask (stp t h c) q = stp t h (c + q) := (nth_add t.mask c (t.probeStart h) q).symm
def entT (P : Program) (w : World) (p : Addr × List Key) : Int × Value := (hT P w p.2, .ref p.1)
/-- at a: a set of the tuples L, with a table that can be walked -/
structure StT (P : Program) (w : World) (h : Heap) (a : Addr) (L : List (Addr × List Key)) (es : Array (Int × Value)) (ep : Nat) (t : SetTable) : Prop where
  obj : ∃ o, h.get? a = some o ∧ o.ExactSet ∧ o.data = .set es ep t
  ent : es.toList = L.map (entT P w)
  tab : TabOk t (L.map fun p => hT P w p.2)
  once : (L.map (·.2)).Nodup
  keys : ∀ p ∈ L, TuK P w h p.2 p.1
  led : w.params.followText "set-order" = true ∨ t.led = true
  room : L.length * 5 < t.mask * 3
  few : L.length < 64
section
variable {P : Program} {w : World} {A : Around} {E : Value → Shared → Prop} {s : Shared} {a : Addr} {L : List (Addr × List Key)} {es : Array (Int × Value)} {ep : Nat} {t : SetTable}
theorem item_scan {k : List Key} {vs : List Value} (h : ItemsAre (mixKind P w) k vs) : ∀ v ∈ vs, v.scannable = true := by
  induction h with
  | nil => exact fun v hv => nomatch hv
  | @cons k0 v' ks vs h1 _ ih =>
    intro v hv
    rcases List.mem_cons.mp hv with rfl | hv
    · rcases keyIs_shape h1 with ⟨i, t, _, rfl⟩ | ⟨x, t, _, rfl⟩ <;> rfl
    · exact ih v hv
theorem class_scan {v : Value} (h : v.scannable = true) (n : Nat) : ofAClassStatement n v = pure false := by
  cases v with
  | ref _ => cases h
  | _ => cases n <;> rfl
theorem class_tuK {k : List Key} {b : Addr} {Q : Bool → Shared → Prop} (hk : TuK P w s.heap k b) (q : Q false s) : wpAny (model P w) A (ofAClassStatement 8 (.ref b)) Q E s := by
  have ty := hk.typeIs
  obtain ⟨o, its, n, ho, _, hd, hi⟩ := hk
  unfold ofAClassStatement
  refine wpAny_bind (wpAny_typeOf ty ?_)
  dsimp only
  simp only [show (("tuple" : String) == "tuple") = true by decide, if_true, Bool.not_true, Bool.false_eq_true, if_false]
  try refine wpAny_bind (wpAny_pure ?_)
  try simp only [Bool.not_true, Bool.false_eq_true, if_false]
  show wpAny _ _ (seqItems? (.ref b) >>= _) _ _ s
  refine wpAny_bind (wpAny_seqItems ho hd ?_)
  dsimp only
  refine wpAny_bind ?_
  show wpAny _ _ (forIn its _ _) _ _ s
  rw [← Array.forIn_toList]
  refine wpAny_forIn_list _ (fun rest r s1 => (∀ v ∈ rest, v.scannable = true) ∧ r.1 = none ∧ s1 = s) _ ?_ ?_ _ _ ⟨item_scan hi, rfl, rfl⟩
  · rintro v rest r s1 ⟨hall, hr, rfl⟩
    rw [class_scan (hall v List.mem_cons_self)]
    refine wpAny_bind (wpAny_pure ?_)
    simp only [Bool.false_eq_true, if_false]
    exact wpAny_pure ⟨fun u hu => hall u (List.mem_cons_of_mem _ hu), rfl, rfl⟩
  · rintro ⟨r1, r2⟩ s1 ⟨_, hr, rfl⟩
    simp only at hr
    subst hr
    exact wpAny_pure q
/-- a search shows nothing of the table -/
theorem unseen {k : List Key} {b : Addr} {Q : Bool → Shared → Prop} (hk : TuK P w s.heap k b) {ys : List Value} (hy : ∀ y ∈ ys, ∃ j c, TuK P w s.heap j c ∧ y = .ref c) (q : Q false s) :
    wpAny (model P w) A (searchCouldBeSeen (.ref b) ys) Q E s := by
  unfold searchCouldBeSeen
  refine wpAny_bind ?_
  refine wpAny_forIn_list _ (fun rest r s1 => (∀ y ∈ rest, ∃ j c, TuK P w s1.heap j c ∧ y = Value.ref c) ∧ r.1 = none ∧ s1 = s) _ ?_ ?_ _ _ ⟨hy, rfl, rfl⟩
  · rintro v rest r s1 ⟨hall, hr, rfl⟩
    obtain ⟨j, c, hc, rfl⟩ := hall v List.mem_cons_self
    have nx := fun u hu => hall u (List.mem_cons_of_mem _ hu)
    dsimp only
    by_cases hv : (b == c || (carriedByValue (.ref b) && carriedByValue (.ref c))) = true
    · exact wp_if_pos hv (wpAny_pure ⟨nx, rfl, rfl⟩)
    · refine wp_if_neg hv ?_
      refine wpAny_bind (wpAny_eqIsQuiet_tuple hk ?_)
      simp only [Bool.not_true, Bool.false_eq_true, if_false]
      refine wpAny_bind (wpAny_eqIsQuiet_tuple hc ?_)
      simp only [Bool.not_true, Bool.false_eq_true, if_false]
      refine wpAny_bind (class_tuK hk ?_)
      simp only [Bool.false_eq_true, if_false]
      refine wpAny_bind (class_tuK hc ?_)
      simp only [Bool.false_eq_true, if_false]
      exact wpAny_pure ⟨nx, rfl, rfl⟩
  · rintro ⟨r1, r2⟩ s1 ⟨_, hr, rfl⟩
    simp only at hr
    subst hr
    exact wpAny_pure q
theorem StT.size (R : StT P w s.heap a L es ep t) : es.size = L.length := by
  have q := congrArg List.length R.ent
  simpa using q
theorem StT.psize (R : StT P w s.heap a L es ep t) : t.place.toList.length = L.length := by
  have q := R.tab.sz
  rw [List.length_map] at q
  rw [Array.length_toList, q]
theorem StT.fits (R : StT P w s.heap a L es ep t) : t.fits es.size = true := by
  have q1 := R.psize
  have q2 := R.size
  have q3 := R.room
  rw [Array.length_toList] at q1
  unfold SetTable.fits SetTable.fill
  rw [R.tab.dm, Bool.and_eq_true, beq_iff_eq, decide_eq_true_eq]
  show t.place.size = es.size ∧ t.place.size + 0 ≤ t.mask
  omega
theorem StT.at_ (R : StT P w s.heap a L es ep t) {i : Nat} {p : Addr × List Key} (h : L[i]? = some p) : es[i]? = some (entT P w p) := by
  rw [← Array.getElem?_toList, R.ent, List.getElem?_map, h]
  rfl
theorem StT.sound (R : StT P w s.heap a L es ep t) : ¬ t.gaveWay = true := by
  unfold SetTable.gaveWay
  rw [mask_odd R.tab.mok]
  decide
/-- the search for k from the c-th step on; K: the first empty place on the way -/
theorem StT.search (R : StT P w s.heap a L es ep t) {x : Addr} {k : List Key} (hx : TuK P w s.heap k x) (hu : A.units < cLine) {K : Nat} (big : K < 10 * SetTable.turns t.mask) (free : way t.mask (hT P w k) K ∉ t.place.toList)
    (taken : ∀ c, c < K → way t.mask (hT P w k) c ∈ t.place.toList) {Q : SetFound → Shared → Prop} (yes : k ∈ L.map (·.2) → Q (.there none) s) (no : k ∉ L.map (·.2) → Q (.free (way t.mask (hT P w k) K) false) s) :
    ∀ (f c : Nat) (stand : Option SetTable.Probe), c ≤ K → K - c < f → stand.getD (t.probeStart (hT P w k)) = stp t (hT P w k) c →
      (∀ (i : Nat) (p : Addr × List Key), L[i]? = some p → p.2 = k → ∃ d, c ≤ d ∧ d < K ∧ t.place.toList[i]? = some (way t.mask (hT P w k) d)) → wpAny (model P w) A (setSearchFrom a (.ref x) (hT P w k) true f stand) Q E s := by
  intro f
  induction f with
  | zero => exact fun c stand _ z => absurd z (Nat.not_lt_zero _)
  | succ f ih =>
    intro c stand hc hf hst left
    obtain ⟨o, ho, hex, hd⟩ := R.obj
    rw [setSearchFrom_succ]
    refine wpAny_bind (wpAny_setState_of ho hd R.fits ?_)
    dsimp only
    refine wp_if_neg R.sound ?_
    try refine wpAny_bind (wpAny_pure ?_)
    have jj : ∀ q, (nth t.mask (stp t (hT P w k) c) q).j = way t.mask (hT P w k) (c + q) := fun q => congrArg SetTable.Probe.j (stp_add t (hT P w k) c q)
    have eK : c + (K - c) = K := by omega
    have hh : ∀ (i : Nat) p, L[i]? = some p → (es[i]?.map (·.1)).getD 0 = hT P w p.2 := fun i p hp => by rw [R.at_ hp]; rfl
    rw [hst]
    rcases go_spec t R.tab.ris R.tab.dm (fun i => (es[i]?.map (·.1)).getD 0) (hT P w k) (10 * SetTable.turns t.mask) (K - c) (stp t (hT P w k) c) (stp_dummy _ _ _) (by omega) (fun q hq => by rw [jj]; exact taken _ (by omega)) (by rw [jj, eK]; exact free) with ⟨q, i, hq, hi, he, before, pr⟩ | ⟨before, pr⟩
    · rw [jj] at hi pr
      rw [stp_add] at pr
      rw [show t.probe (fun i => (es[i]?.map (·.1)).getD 0) (hT P w k) (stp t (hT P w k) c) = some (.candidate (way t.mask (hT P w k) (c + q)) i (stp t (hT P w k) (c + (q + 1)))) from pr]
      dsimp only
      have il : i < L.length := by
        have z := (List.getElem?_eq_some_iff.mp hi).1
        have y := R.psize
        omega
      obtain ⟨p, hp⟩ : ∃ p, L[i]? = some p := ⟨L[i], List.getElem?_eq_getElem il⟩
      have pm : p ∈ L := List.mem_of_getElem? hp
      have live : t.slot (way t.mask (hT P w k) (c + q)) = .live i := slot_live R.tab.ris hi
      have rest : wpAny (model P w) A (searchRest a (.ref x) (hT P w k) true f es t (way t.mask (hT P w k) (c + q)) i (stp t (hT P w k) (c + (q + 1)))) Q E s := by
        unfold searchRest
        rw [R.at_ hp]
        dsimp only [entT]
        refine wpAny_bind (wpAny_holding (wpAny_eqBool_tuple hu (R.keys p pm) hx ?_))
        refine wpAny_bind (wpAny_setState_of ho hd R.fits ?_)
        dsimp only
        by_cases same : p.2 = k
        · exact wp_if_pos (by simp [same]) (wpAny_pure (yes (List.mem_map.mpr ⟨p, pm, same⟩)))
        · refine wp_if_neg (by simp [same]) ?_
          try refine wpAny_bind (wpAny_pure ?_)
          rw [sameMem]
          dsimp only
          simp only [if_true, live, R.at_ hp, entT]
          refine wpAny_bind (wpAny_isSame_ref_self (wpAny_bind (wpAny_pure ?_)))
          simp only [if_true]
          refine wp_if_neg (by simp [same]) ?_
          refine ih (c + (q + 1)) _ (by omega) (by omega) rfl fun i0 p0 h0 e0 => ?_
          obtain ⟨d, d1, d2, d3⟩ := left i0 p0 h0 e0
          refine ⟨d, ?_, d2, d3⟩
          by_cases z1 : d < c + q
          · refine absurd ((hh i0 p0 h0).trans (congrArg (hT P w) e0)) (before (d - c) i0 (by omega) ?_)
            rw [jj, show c + (d - c) = d by omega]
            exact d3
          · by_cases z2 : d = c + q
            · exfalso
              rw [z2] at d3
              have y := slot_live R.tab.ris d3
              rw [live] at y
              injection y with y
              rw [← y, hp] at h0
              cases h0
              exact same e0
            · omega
      by_cases hl : t.led = true
      · refine wp_if_neg (by simp [hl]) ?_
        try refine wpAny_bind (wpAny_pure ?_)
        exact rest
      · refine wp_if_pos (by simp [hl]) (wpAny_bind (unseen hx (fun y hy => ?_) ?_))
        · obtain ⟨e, he1, rfl⟩ := List.mem_map.mp hy
          have he2 : e ∈ es.toList := by
            have : e ∈ es ∧ e.1 = hT P w k := by simpa using he1
            simpa using this.1
          rw [R.ent] at he2
          obtain ⟨p2, hp2, rfl⟩ := List.mem_map.mp he2
          exact ⟨p2.2, p2.1, R.keys p2 hp2, rfl⟩
        · refine wp_if_neg (by decide) ?_
          try refine wpAny_bind (wpAny_pure ?_)
          exact rest
    · rw [jj, eK] at pr
      rw [show t.probe (fun i => (es[i]?.map (·.1)).getD 0) (hT P w k) (stp t (hT P w k) c) = some (.empty (way t.mask (hT P w k) K) none) from pr]
      dsimp only
      refine wpAny_pure (no fun hm => ?_)
      obtain ⟨p0, m0, e0⟩ := List.mem_map.mp hm
      obtain ⟨i0, h0⟩ := List.mem_iff_getElem?.mp m0
      obtain ⟨d, d1, d2, d3⟩ := left i0 p0 h0 e0
      refine before (d - c) i0 (by omega) ?_ ((hh i0 p0 h0).trans (congrArg (hT P w) e0))
      rw [jj, show c + (d - c) = d by omega]
      exact d3
/-- the search that an insertion makes -/
theorem StT.find (R : StT P w s.heap a L es ep t) {x : Addr} {k : List Key} (hx : TuK P w s.heap k x) (hu : A.units < cLine) {Q : SetFound → Shared → Prop} (yes : k ∈ L.map (·.2) → Q (.there none) s)
    (no : ∀ K, k ∉ L.map (·.2) → way t.mask (hT P w k) K ∉ t.place.toList → (∀ c, c < K → way t.mask (hT P w k) c ∈ t.place.toList) → Q (.free (way t.mask (hT P w k) K) false) s) :
    wpAny (model P w) A (setSearch a (.ref x) (hT P w k) true) Q E s := by
  have q := R.room
  obtain ⟨K, k1, k2, k3⟩ := R.tab.first (by rw [List.length_map]; omega) (hT P w k)
  have small : 10 * SetTable.turns t.mask ≤ 1420 := by
    unfold SetTable.turns
    rcases R.tab.mok with e | e | e <;> omega
  unfold setSearch
  refine R.search hx hu k1 k2 k3 yes (fun z => no K z k2 k3) 100000 0 none (Nat.zero_le _) (by omega) rfl fun i p hp e => ?_
  have hi : (L.map fun p => hT P w p.2)[i]? = some (hT P w k) := by rw [List.getElem?_map, hp, ← e]; rfl
  have il : i < t.place.toList.length := by
    rw [R.psize]
    exact (List.getElem?_eq_some_iff.mp hp).1
  obtain ⟨d, d1, d2⟩ := R.tab.before k2 hi (List.getElem?_eq_getElem il)
  exact ⟨d, Nat.zero_le _, d1, by rw [List.getElem?_eq_getElem il, d2]⟩
end
end MP

/-! sets of tuples of numbers and texts: an insertion -/
namespace MP
open PySem PySem.Spec PyProof.Rows L2
section
variable {P : Program} {w : World} {A : Around} {E : Value → Shared → Prop} {s : Shared} {a : Addr} {L : List (Addr × List Key)} {es : Array (Int × Value)} {ep : Nat} {t : SetTable}
theorem TuK.but {h h' : Heap} {k : List Key} {b : Addr} {o : Obj} (q : TuK P w h k b) (ho : h.get? a = some o) (hd : o.data = .set es ep t) (sb : Heap.SameBut a h h') : TuK P w h' k b := by
  obtain ⟨o1, its, n, h1, h2, h3, h4⟩ := q
  refine ⟨o1, its, n, (sb.2 b fun z => ?_).trans h1, h2, h3, h4⟩
  rw [z, ho] at h1
  cases h1
  rw [hd] at h3
  cases h3
end
end MP

/-! set(pairs of texts), of a list, of a tuple; sorted and counted -/
namespace MP
open PySem PySem.Spec PyProof.Rows L2
/-- what stands in the set behind the first i pairs -/
structure Met (ks : List (Addr × List Key)) (i : Nat) (L : List (Addr × List Key)) : Prop where
  old : ∀ p ∈ L, p ∈ ks.take i
  new : ∀ p ∈ ks.take i, p.2 ∈ L.map (·.2)
  len : L.length ≤ i
section
variable {P : Program} {w : World} {A : Around} {R : Result → Shared → Prop} {E : Value → Shared → Prop} {s : Shared}
theorem TuK.keep {h h' : Heap} {k : List Key} {b : Addr} (q : TuK P w h k b) (e : ∀ c o, h.get? c = some o → h'.get? c = some o) : TuK P w h' k b := by
  obtain ⟨o, its, n, ho, r⟩ := q
  exact ⟨o, its, n, e b o ho, r⟩
theorem StT.keep {h h' : Heap} {a : Addr} {L : List (Addr × List Key)} {es : Array (Int × Value)} {ep : Nat} {t : SetTable} (q : StT P w h a L es ep t) (ha : ∀ o, h.get? a = some o → h'.get? a = some o) (hk : ∀ p ∈ L, TuK P w h' p.2 p.1) : StT P w h' a L es ep t := by
  obtain ⟨o, ho, r⟩ := q.obj
  exact ⟨⟨o, ha o ho, r⟩, q.ent, q.tab, q.once, hk, q.led, q.room, q.few⟩
end
end MP

namespace MP
open PySem PySem.Spec PyProof.Rows L2
section
variable {P : Program} {w : World} {A : Around} {R : Result → Shared → Prop} {E : Value → Shared → Prop} {s : Shared}
end
end MP

/-! sorted(set(a tuple of pairs of texts)) as an expression -/
namespace MP
open PySem PySem.Spec PyProof.Rows L2
abbrev PS := Str × Str
def pdD (p : PS) : D := .tup [.str p.1, .str p.2]
def psOf : List D → Option (List PS)
  | [] => some []
  | .tup [.str a, .str b] :: r => (psOf r).map fun q => (a, b) :: q
  | _ => none
def kkP (p : PS) : List Key := [.inr p.1, .inr p.2]
def nubP : List PS → List PS
  | [] => []
  | x :: r => if x ∈ r then nubP r else x :: nubP r
/-- p not behind q -/
def leP (p q : PS) : Bool := !ltP q.1 q.2 p.1 p.2
def srtP (ps : List PS) : List PS := (nubP ps).mergeSort leP
def encP (p : PS) : PyData := .tuple [.str p.1, .str p.2]
section
variable {K : PySem.W.Frag} {m : List Addr} {H : Hp}
end
/-- sorted(set(a tuple of pairs of texts)) -/
def gSortSetP : GC := fun _ ds => match ds with
  | [.tup xs] => match psOf xs with
    | some ps => if ps.length < 64 then some (.lst ((srtP ps).map pdD)) else none
    | none => none
  | _ => none
end MP

/-! upper, {text: number}, isinstance of numbers and truths of any datum, is not True -/
namespace MP
open PySem PySem.Spec PyProof.Rows L2
section
variable {X : Cx}
theorem pel_disp1i {k : Str} {v : Int} {j1 j2 : Nat} {p1 p2 pos : Pos} : PEL X (.Dict [some (.Constant (.str k) j1 p1)] [.Constant (.int v) j2 p2] pos) (fun _ S => .ok (.dct false [(.str k, .int v)]) S) :=
  .of_pe (pe_disp (pps_cons pe_str pe_int pps_nil) rfl rfl (by simp) (by simp)) fun σ H m ρ S x er hp p hn => by
    refine ⟨upd_same, [(.inr k, .int v)], rfl, by simp, _, _, rfl, ?_⟩
    rw [upd2]
    exact qv_new x hn (.dct (x.nin hn) upd_same (.cons (k := .inr k) (.int _) .nil))
def gNotB : G2 := fun _ x y => match x, y with
  | .bl a, .bl b => some (.bl (!decide (a = b)))
  | _, _ => none
def lUpper (lo : LE) : LE := fun ρ S => (lo ρ S).bind fun d S1 => match d with
  | .str z => if z.length ≤ 100000 then .ok (.str (Txt.upper z)) S1 else .bad
  | _ => .bad
end
def tabIntA : Tab
  | .int => some true
  | .bl => some true
  | .obj _ => none
  | _ => some false
def tabBlA : Tab
  | .bl => some true
  | .obj _ => none
  | _ => some false
end MP

/-! tuples of no dict of their own; dict(pairs) of a list, of such a tuple -/
namespace MP
open PySem PySem.Spec PyProof.Rows L2
section
variable {X : Cx}
/-- tuple(a list) -/
def gFTuple : GC := fun S ds => match ds with
  | [d] => match vw S d with
    | .lst xs => some (.ftup xs)
    | _ => none
  | _ => none
theorem cl_ftuple : CallL X (.type "tuple") gFTuple := ⟨fun pins s σ H m S xs ds d us I q r rv e => by
  unfold gFTuple at e
  split at e
  · split at e
    · rename_i ys e1
      cases e
      obtain ⟨v, rfl, w⟩ := r.one
      obtain ⟨a, vs, rfl, h1, r1⟩ := vw_lst q w e1
      rw [Vals.ref1 rv]
      obtain ⟨its, rv', pl, hz⟩ := I.list h1
      refine call_tuple_list pl.isList (fun h' hk => ?_) (by rw [List.size_toArray, ← rv'.length]; exact hz)
      have I1 : Inv X pins σ H { s with heap := h', toks := s.toks } := I.kept hk
      have hn : H h'.objs.size = none := I1.hok.fresh (Nat.le_refl _)
      exact ⟨.ref h'.objs.size, upd H h'.objs.size (.frz { cls := .type "tuple", data := .seq its.toArray } (.tup vs)), m, I1.laid (t' := s.toks) (o := .frz { cls := .type "tuple", data := .seq its.toArray } (.tup vs)) (fun b o e => Heap.get?_push_of_some _ e) (Nat.le_refl _) ⟨Heap.get?_push_size _ rfl, hz, its, rv', IsTup.new h' _⟩, rfl, Ext.fresh hn, q.fresh hn, .ftup rfl upd_same (r1.fresh q hn)⟩
    · cases e
  · cases e⟩
/-- () -/
def lTup0 : LE := fun _ S => .ok (.ftup []) S
theorem pel_tup0 {x1 : Nat} {pos : Pos} : PEL X (.Tuple [] x1 pos) lTup0 := by
  refine ⟨fun pins s σ H m ρ S I x r hp => ?_⟩
  have hp' : Hope X σ m H ((aNil ρ S).bind fun ds S1 => R.ok (D.ftup []) S1) := hp
  refine wpAny_Tuple_spliced (run_seqA pal_nil I x r hp' fun ds S1 q1 vs us s1 H1 m1 I1 rv e1 x1 w1 r1 hp1 => ?_)
  cases q1
  cases w1
  cases rv
  refine ⟨Nat.zero_le _, ?_⟩
  have hf : H1 s1.heap.objs.size = none := I1.hok.fresh (Nat.le_refl _)
  exact (vpr_of ⟨.ref s1.heap.objs.size, upd H1 s1.heap.objs.size (.frz { cls := .type "tuple", data := .seq #[] } (.tup [])), m1, I1.laid (t' := s1.toks) (o := .frz { cls := .type "tuple", data := .seq #[] } (.tup [])) (fun b u e => Heap.get?_push_of_some _ e) (Nat.le_refl _) ⟨Heap.get?_push_size _ rfl, Nat.zero_le _, [], .nil, _, Heap.get?_push_size _ rfl, rfl, _, rfl⟩, rfl, Ext.fresh hf, x1.fresh hf, .ftup rfl upd_same .nil⟩).left e1
end
/-! ### pairs -/
def kv1 : D → Option (D × D)
  | .tup [k, v] => (keyOf k).map fun _ => (k, v)
  | _ => none
def kvsOf : List D → Option (List (D × D))
  | [] => some []
  | x :: r => (kv1 x).bind fun p => (kvsOf r).map fun q => p :: q
def keysK (kvs : List (D × D)) : List Key := kvs.filterMap fun q => keyOf q.1
theorem kv1_inv {x : D} {p : D × D} (h : kv1 x = some p) : x = .tup [p.1, p.2] ∧ ∃ key, keyOf p.1 = some key := by
  unfold kv1 at h
  split at h
  · rename_i k v
    cases q : keyOf k with
    | none => rw [q] at h; cases h
    | some key => rw [q] at h; cases h; exact ⟨rfl, key, q⟩
  · cases h
def kv1T : D → Option (D × D)
  | .tup [.tup xs, v] => (keysOf xs).map fun _ => (.tup xs, v)
  | _ => none
def kvsOfT : List D → Option (List (D × D))
  | [] => some []
  | x :: r => (kv1T x).bind fun p => (kvsOfT r).map fun q => p :: q
def keysT (kvs : List (D × D)) : List (List Key) := kvs.filterMap fun q => kOf true q.1
theorem kv1T_inv {x : D} {p : D × D} (h : kv1T x = some p) : ∃ ks : List Key, x = .tup [.tup (ks.map keyD), p.2] ∧ p.1 = .tup (ks.map keyD) := by
  unfold kv1T at h
  split at h
  · rename_i xs v
    cases q : keysOf xs with
    | none => rw [q] at h; cases h
    | some ks => rw [q] at h; cases h; exact ⟨ks, by rw [← keysOf_inv q], by rw [← keysOf_inv q]⟩
  · cases h
theorem mergeK_nd : ∀ (ks acc : List (Key × V)), (acc.map (·.1) ++ ks.map (·.1)).Nodup → mergeK acc ks = acc ++ ks
  | [], acc, _ => by simp [mergeK]
  | k :: ks, acc, h => by
    have hn : (acc.any fun kv => decide (kv.1 = k.1)) = false := by
      rw [List.any_eq_false]
      intro x hx z
      have e := of_decide_eq_true z
      rw [List.map_cons, List.nodup_append] at h
      exact h.2.2 x.1 (List.mem_map_of_mem hx) k.1 List.mem_cons_self e
    have e : putK acc k.1 k.2 = acc ++ [k] := by
      unfold putK
      rw [hn, if_neg Bool.false_ne_true]
    show mergeK (putK acc k.1 k.2) ks = _
    rw [e, mergeK_nd ks (acc ++ [k]) (by simpa [List.append_assoc] using h)]
    simp
theorem merged_nd {κ : Type} [DecidableEq κ] : ∀ (ks acc : List (κ × Value)), (acc.map (·.1) ++ ks.map (·.1)).Nodup → merged acc ks = acc ++ ks
  | [], acc, _ => by simp [merged]
  | k :: ks, acc, h => by
    have hn : (acc.any fun kv => decide (kv.1 = k.1)) = false := by
      rw [List.any_eq_false]
      intro x hx z
      have e := of_decide_eq_true z
      rw [List.map_cons, List.nodup_append] at h
      exact h.2.2 x.1 (List.mem_map_of_mem hx) k.1 List.mem_cons_self e
    have e : stored acc k.1 k.2 = acc ++ [k] := by
      unfold stored
      rw [hn, if_neg Bool.false_ne_true]
    show merged (stored acc k.1 k.2) ks = _
    rw [e, merged_nd ks (acc ++ [k]) (by simpa [List.append_assoc] using h)]
    simp
theorem storedAll_nd {κ : Type} [DecidableEq κ] : ∀ (ks acc : List (κ × Addr × Value)), (acc.map (·.1) ++ ks.map (·.1)).Nodup → storedAllH acc ks = acc ++ ks
  | [], acc, _ => by simp [storedAllH]
  | k :: ks, acc, h => by
    have hn : atKey acc k.1 = none := by
      cases q : atKey acc k.1 with
      | none => rfl
      | some p =>
        exfalso
        unfold atKey at q
        rw [List.map_cons, List.nodup_append] at h
        have hm : k.1 ∈ acc.map (·.1) := by
          cases z : acc.find? (fun x => x.1 = k.1) with
          | none => rw [z] at q; cases q
          | some y =>
            have e := List.find?_some z
            have e' : y.1 = k.1 := by simpa using e
            rw [← e']
            exact List.mem_map_of_mem (List.mem_of_find?_eq_some z)
        exact h.2.2 k.1 hm k.1 List.mem_cons_self rfl
    show storedAllH (storedH acc k.1 k.2.1 k.2.2) ks = _
    rw [storedH_new hn, storedAll_nd ks (acc ++ [(k.1, k.2.1, k.2.2)]) (by simpa [List.append_assoc] using h)]
    simp
theorem paired_right {α β : Type} {F : α → β → Prop} : ∀ {l₁ : List α} {l₂ : List β}, Paired F l₁ l₂ → ∀ y ∈ l₂, ∃ x, F x y
  | _, _, .nil => fun y hy => nomatch hy
  | _, _, .cons h t => fun y hy => by
    rcases List.mem_cons.mp hy with rfl | hy
    · exact ⟨_, h⟩
    · exact paired_right t y hy
theorem paired_keys {α β γ : Type} {F : α × β → α × γ → Prop} : ∀ {l₁ : List (α × β)} {l₂ : List (α × γ)}, Paired F l₁ l₂ → (∀ x y, F x y → x.1 = y.1) → l₂.map (·.1) = l₁.map (·.1)
  | _, _, .nil, _ => rfl
  | _, _, .cons h t, g => by rw [List.map_cons, List.map_cons, g _ _ h, paired_keys t g]
section
variable {K : PySem.W.Frag} {m : List Addr} {H : Hp}
theorem kvs_paired : ∀ {xs : List D} {vs : List V} {kvs : List (D × D)}, VRs K m H vs xs → kvsOf xs = some kvs → ∃ (ps : List Addr) (ks : List (Key × V)), vs = ps.map V.ref ∧ Paired (fun p (kv : Key × V) => H p = some (.tup [kV kv.1, kv.2])) ps ks ∧ VDk K m H ks kvs ∧ ks.map (·.1) = keysK kvs
  | [], _, _, .nil, h => by simp only [kvsOf] at h; cases h; exact ⟨[], [], rfl, .nil, .nil, rfl⟩
  | x :: xs, v :: vs, kvs, .cons hx r, h => by
    simp only [kvsOf] at h
    cases q : kv1 x with
    | none => rw [q] at h; cases h
    | some p =>
      rw [q] at h
      cases q2 : kvsOf xs with
      | none => rw [q2] at h; cases h
      | some kvs' =>
        rw [q2] at h
        cases h
        obtain ⟨rfl, key, hk⟩ := kv1_inv q
        obtain ⟨ps, ks, e1, e2, e3, e4⟩ := kvs_paired r q2
        cases hx with
        | @tup a vs' _ h' r' =>
          obtain ⟨v1, v2, rfl, w1, w2⟩ := r'.two
          have ev := w1.key hk
          subst ev
          have ek := keyOf_inv hk
          refine ⟨a :: ps, (key, v2) :: ks, by rw [e1]; rfl, .cons h' e2, ?_, ?_⟩
          · obtain ⟨p1, p2⟩ := p
            dsimp only at ek w2 ⊢
            subst ek
            exact .cons w2 e3
          · show key :: ks.map (·.1) = keysK (p :: kvs')
            unfold keysK
            rw [List.filterMap_cons_some (f := fun q : D × D => keyOf q.1) (a := p) hk, e4]
            rfl
theorem kvs_pairedT : ∀ {xs : List D} {vs : List V} {kvs : List (D × D)}, VRs K m H vs xs → kvsOfT xs = some kvs → ∃ (ps : List (Addr × Addr)) (ks : List (List Key × V)), vs = ps.map (fun p => V.ref p.1) ∧ Paired (fun p (kv : List Key × V) => H p.1 = some (.tup [.ref p.2, kv.2]) ∧ H p.2 = some (.tup (kv.1.map kV))) ps ks ∧ VDt K m H ks kvs ∧ ks.map (·.1) = keysT kvs
  | [], _, _, .nil, h => by simp only [kvsOfT] at h; cases h; exact ⟨[], [], rfl, .nil, .nil, rfl⟩
  | x :: xs, v :: vs, kvs, .cons hx r, h => by
    simp only [kvsOfT] at h
    cases q : kv1T x with
    | none => rw [q] at h; cases h
    | some p =>
      rw [q] at h
      cases q2 : kvsOfT xs with
      | none => rw [q2] at h; cases h
      | some kvs' =>
        rw [q2] at h
        cases h
        obtain ⟨key, rfl, hk⟩ := kv1T_inv q
        obtain ⟨ps, ks, e1, e2, e3, e4⟩ := kvs_pairedT r q2
        cases hx with
        | @tup a vs' _ h' r' =>
          obtain ⟨v1, v2, rfl, w1, w2⟩ := r'.two
          cases w1 with
          | @tup b us _ hb rb =>
            have ev := rb.keys
            subst ev
            refine ⟨(a, b) :: ps, (key, v2) :: ks, by rw [e1]; rfl, .cons ⟨h', hb⟩ e2, ?_, ?_⟩
            · obtain ⟨p1, p2⟩ := p
              dsimp only at hk w2 ⊢
              subst hk
              exact .cons w2 e3
            · show key :: ks.map (·.1) = keysT (p :: kvs')
              unfold keysT
              rw [List.filterMap_cons_some (f := fun q : D × D => kOf true q.1) (a := p) (show kOf true p.1 = some key by rw [hk]; exact kf2.mpr rfl), e4]
              rfl
end
section
variable {X : Cx}
theorem pairs2 {pins : List (Addr × Obj)} {σ : L2.St} {H : Hp} {s : Shared} (I : Inv X pins σ H s) : ∀ {ps : List Addr} {ks : List (Key × V)}, Paired (fun p (kv : Key × V) => H p = some (.tup [kV kv.1, kv.2])) ps ks →
    ∃ (prs : List (Key × Value)) (pv : List (Value × Value)), KV ks prs ∧ prs.length = ps.length ∧ pv.length = ps.length ∧ ∀ (j : Nat) (u y : Value), pv[j]? = some (u, y) → ∃ (b : Addr) (k : Key), ps[j]? = some b ∧ prs[j]? = some (k, y) ∧ IsTup s.heap b #[u, y] ∧ keyIs k u = true
  | _, _, .nil => ⟨[], [], .nil, rfl, rfl, fun j u y e => by simp at e⟩
  | _, _, .cons (a := p) (b := kv) h t => by
    obtain ⟨prs, pv, r, hl, hl2, hp⟩ := pairs2 I t
    obtain ⟨its, rv, ht, _⟩ := I.tuple (SqT.of h)
    obtain ⟨u, y, ei, ru, ry⟩ := vals2 rv
    subst ei
    refine ⟨(kv.1, y) :: prs, (u, y) :: pv, .cons ⟨rfl, ry⟩ r, by rw [List.length_cons, List.length_cons, hl], by rw [List.length_cons, List.length_cons, hl2], fun j u' y' e => ?_⟩
    cases j with
    | zero =>
      have e' : (u, y) = (u', y') := Option.some.inj e
      cases e'
      exact ⟨p, kv.1, rfl, rfl, ht, kV_is (P := X.prog) (w := X.w) ru⟩
    | succ j =>
      obtain ⟨b, k, e1, e2, e3⟩ := hp j u' y' (by simpa using e)
      exact ⟨b, k, by simpa using e1, by simpa using e2, e3⟩
/-- dict(pairs), the keys numbers and texts, each once -/
def gDictK : GC := fun S ds => match ds with
  | [.lst xs] => (kvsOf xs).bind fun kvs => if (keysK kvs).Nodup ∧ kvs.length ≤ 100000 then some (.dct false kvs) else none
  | [.ftup xs] => (kvsOf xs).bind fun kvs => if (keysK kvs).Nodup ∧ kvs.length ≤ 100000 then some (.dct false kvs) else none
  | _ => none
theorem vdk_len {K : PySem.W.Frag} {m : List Addr} {H : Hp} : ∀ {ks : List (Key × V)} {kvs : List (D × D)}, VDk K m H ks kvs → ks.length = kvs.length
  | _, _, .nil => rfl
  | _, _, .cons _ r => by rw [List.length_cons, List.length_cons, vdk_len r]
theorem vdt_len {K : PySem.W.Frag} {m : List Addr} {H : Hp} : ∀ {ks : List (List Key × V)} {kvs : List (D × D)}, VDt K m H ks kvs → ks.length = kvs.length
  | _, _, .nil => rfl
  | _, _, .cons _ r => by rw [List.length_cons, List.length_cons, vdt_len r]
theorem cl_dictK (hc : X.calm = true) : CallL X (.type "dict") gDictK := ⟨fun pins s σ H m S xs ds d us I q r rv e => by
  unfold gDictK at e
  split at e
  · rename_i ys
    cases q1 : kvsOf ys with
    | none => rw [q1] at e; cases e
    | some kvs =>
      rw [q1] at e
      dsimp only [Option.bind] at e
      split at e
      · rename_i hk
        cases e
        obtain ⟨v, rfl, w⟩ := r.one
        obtain ⟨a, vs, rfl, h1, r1⟩ := vw_lst (S := S) q w rfl
        obtain ⟨ps, ks, rfl, hp, hd, hkeys⟩ := kvs_paired r1 q1
        have hm : mergeK [] ks = ks := by
          have := mergeK_nd ks [] (by rw [hkeys]; exact hk.1)
          simpa using this
        refine thn (call_dictP hc pins s σ H [.ref a] us (QV X.K m H S (.dct false kvs)) I rv ⟨a, ps, ks, rfl, h1, L2.Paired.mapP hp (fun _ _ z => SqT.of z), fun p hn => ?_⟩) fun _ _ z => vp_of z
        rw [hm]
        exact qv_new q hn (.dct (q.nin hn) upd_same (VDk.ext (Ext.fresh hn) q.muts hd))
      · cases e
  · rename_i ys
    cases q1 : kvsOf ys with
    | none => rw [q1] at e; cases e
    | some kvs =>
      rw [q1] at e
      dsimp only [Option.bind] at e
      split at e
      · rename_i hk
        cases e
        obtain ⟨v, rfl, w⟩ := r.one
        cases w with
        | @ftup a vs _ o hdn h1 r1 =>
          obtain ⟨ps, ks, rfl, hp, hd, hkeys⟩ := kvs_paired r1 q1
          rw [Vals.ref1 rv]
          obtain ⟨ho, hz, its, rv', o', ho', hcl, n, hdat⟩ := (show ObjOk X.prog X.w H s.heap a (.frz o (.tup (ps.map V.ref))) from I.hok a _ h1)
          obtain rfl : o' = o := Option.some.inj (ho'.symm.trans ho)
          have ei := refs_at rv'
          subst ei
          obtain ⟨prs, pv, rel, hl, hl2, hpr⟩ := pairs2 I hp
          rw [List.length_map] at hz
          refine PySem.call_dict_pairs (knd := mixKind X.prog X.w) (kvs := prs) (PairArg.tuple a (ps.map Value.ref).toArray (fun j => ps.getD j 0) pv) (I.ok.hd hc) ⟨⟨o', n, ho, hcl, hdn, hdat⟩, by simp [hl2], fun j u y e => ?_⟩ ⟨by rw [hl, hl2], fun j u y e => ?_⟩ (by rw [hl2]; exact hz) fun h' tk hd' k => ?_
          · obtain ⟨b, k, e1, e2, e3, e4⟩ := hpr j u y e
            have eb : ps.getD j 0 = b := by simp [List.getD_eq_getElem?_getD, e1]
            exact ⟨by simp [e1, List.getD_eq_getElem?_getD], .inl (by show s.heap.IsTuple (ps.getD j 0) #[u, y]; rw [eb]; exact e3)⟩
          · obtain ⟨b, k, e1, e2, e3, e4⟩ := hpr j u y e
            exact ⟨k, e2, e4⟩
          · have hn : H s.heap.objs.size = none := I.hok.fresh (Nat.le_refl _)
            have hsys : (s.heap.objs.size == sysModules) = false := beq_eq_false_iff_ne.mpr (Nat.ne_of_gt I.big)
            have hpk : prs.map (·.1) = ks.map (·.1) := paired_keys (F := fun (p : Key × V) (q : Key × Value) => p.1 = q.1 ∧ RelV p.2 q.2) rel fun _ _ z => z.1
            have hm : merged [] prs = prs := by
              have := merged_nd prs [] (by rw [hpk, hkeys]; exact hk.1)
              simpa using this
            rw [hm] at hd'
            have hlen : ks.length ≤ sizeLine := by rw [vdk_len hd]; exact Nat.le_trans hk.2 (by decide)
            exact ⟨.ref s.heap.objs.size, upd H s.heap.objs.size (.dK ks), m, I.laid (t' := tk) (fun b o e => k b o (fun z => nomatch z) e) (Nat.le_refl _) (show ObjOk X.prog X.w _ _ _ (.dK ks) from ⟨hlen, hsys, prs, rel, hd'⟩), rfl, Ext.fresh hn, q.fresh hn, .dct (q.nin hn) upd_same (VDk.ext (Ext.fresh hn) q.muts hd)⟩
      · cases e
  · cases e⟩
theorem pairsT2 {pins : List (Addr × Obj)} {σ : L2.St} {H : Hp} {s : Shared} (I : Inv X pins σ H s) : ∀ {ps : List (Addr × Addr)} {ks : List (List Key × V)}, Paired (fun p (kv : List Key × V) => H p.1 = some (.tup [.ref p.2, kv.2]) ∧ H p.2 = some (.tup (kv.1.map kV))) ps ks →
    ∃ (prs : List (List Key × Addr × Value)) (pv : List (Value × Value)), Paired (fun (p : List Key × V) (q : List Key × Addr × Value) => p.1 = q.1 ∧ H q.2.1 = some (.tup (p.1.map kV)) ∧ RelV p.2 q.2.2) ks prs ∧ prs.length = ps.length ∧ pv.length = ps.length ∧ ∀ (j : Nat) (u y : Value), pv[j]? = some (u, y) → ∃ (b c : Addr) (k : List Key), ps[j]? = some (b, c) ∧ u = .ref c ∧ prs[j]? = some (k, c, y) ∧ IsTup s.heap b #[u, y]
  | _, _, .nil => ⟨[], [], .nil, rfl, rfl, fun j u y e => by simp at e⟩
  | _, _, .cons (a := p) (b := kv) h t => by
    obtain ⟨prs, pv, r, hl, hl2, hp⟩ := pairsT2 I t
    obtain ⟨its, rv, ht, _⟩ := I.tuple (SqT.of h.1)
    obtain ⟨u, y, ei, ru, ry⟩ := vals2 rv
    subst ei
    obtain rfl : u = Value.ref p.2 := ru
    refine ⟨(kv.1, p.2, y) :: prs, (.ref p.2, y) :: pv, .cons ⟨rfl, h.2, ry⟩ r, by rw [List.length_cons, List.length_cons, hl], by rw [List.length_cons, List.length_cons, hl2], fun j u' y' e => ?_⟩
    cases j with
    | zero =>
      have e' : (Value.ref p.2, y) = (u', y') := Option.some.inj e
      cases e'
      exact ⟨p.1, p.2, kv.1, rfl, rfl, rfl, ht⟩
    | succ j =>
      obtain ⟨b, c, k, e1, e2, e3⟩ := hp j u' y' (by simpa using e)
      exact ⟨b, c, k, by simpa using e1, e2, by simpa using e3.1, e3.2⟩
/-- dict(pairs), the keys tuples of numbers and texts, each once -/
def gDictT : GC := fun S ds => match ds with
  | [.lst xs] => (kvsOfT xs).bind fun kvs => if (keysT kvs).Nodup ∧ kvs.length ≤ 100000 then some (.dct true kvs) else none
  | _ => none
theorem cl_dictT (hc : X.calm = true) (hu : X.A.units + 64 < cLine) : CallL X (.type "dict") gDictT := ⟨fun pins s σ H m S xs ds d us I q r rv e => by
  unfold gDictT at e
  split at e
  · rename_i ys
    cases q1 : kvsOfT ys with
    | none => rw [q1] at e; cases e
    | some kvs =>
      rw [q1] at e
      dsimp only [Option.bind] at e
      split at e
      · rename_i hk
        cases e
        obtain ⟨v, rfl, w⟩ := r.one
        obtain ⟨a, vs, rfl, h1, r1⟩ := vw_lst (S := S) q w rfl
        obtain ⟨ps, ks, rfl, hp, hd, hkeys⟩ := kvs_pairedT r1 q1
        rw [Vals.ref1 rv]
        obtain ⟨its, rv', ⟨o, n, ho, hcl, hdn, hdat⟩, hz⟩ := I.list h1
        have hmm : (ps.map fun p => V.ref p.1) = (ps.map (·.1)).map V.ref := by rw [List.map_map]; rfl
        rw [hmm] at rv'
        have ei := refs_at rv'
        subst ei
        obtain ⟨prs, pv, rel, hl, hl2, hpr⟩ := pairsT2 I hp
        rw [List.length_map] at hz
        have relH := rel
        refine PySem.call_dict_pairsH (knd := tupleKind (mixKind X.prog X.w)) (ps := prs) (PairArg.list a ((ps.map (·.1)).map Value.ref).toArray (fun j => (ps.map (·.1)).getD j 0) pv) (I.ok.hd hc) (tupleKind_room_in1 (A := X.A.in1) (by show X.A.units + 1 + 1 < cLine; omega)) ⟨⟨o, n, ho, hcl, hdn, hdat⟩, by simp [hl2], fun j u y e => ?_⟩ ⟨by rw [hl, hl2], fun j u y e => ?_⟩ (fun h' hk' x hx => ?_) (by rw [hl2]; exact hz) fun h' tk hd' k => ?_
        · obtain ⟨b, c, k, e1, e2, e3, e4⟩ := hpr j u y e
          have eb : (ps.map (·.1)).getD j 0 = b := by simp [List.getD_eq_getElem?_getD, e1]
          exact ⟨by simp [e1, List.getD_eq_getElem?_getD], .inl (by show s.heap.IsTuple ((ps.map (·.1)).getD j 0) #[u, y]; rw [eb]; exact e4)⟩
        · obtain ⟨b, c, k, e1, e2, e3, e4⟩ := hpr j u y e
          exact ⟨k, c, e3, e2⟩
        · have hx' : H x.2.1 = some (.tup (x.1.map kV)) := by
            obtain ⟨y, z1, z2, _⟩ := paired_right rel x hx
            rw [← z1]; exact z2
          obtain ⟨ob, it, n', g1, g2⟩ := key_of I.hok hx'
          exact ⟨ob, it, n', hk' _ _ (Nat.ne_of_lt (Heap.lt_size g1)) (fun z => nomatch z) g1, g2⟩
        · have hn : H s.heap.objs.size = none := I.hok.fresh (Nat.le_refl _)
          have hsys : (s.heap.objs.size == sysModules) = false := beq_eq_false_iff_ne.mpr (Nat.ne_of_gt I.big)
          have hpk : prs.map (·.1) = ks.map (·.1) := paired_keys rel fun _ _ z => z.1
          have hm : storedAllH [] prs = prs := by
            have := storedAll_nd prs [] (by rw [hpk, hkeys]; exact hk.1)
            simpa using this
          rw [hm] at hd'
          have hlen : ks.length ≤ sizeLine := by rw [vdt_len hd]; exact Nat.le_trans hk.2 (by decide)
          obtain ⟨ob, es, ep, g1, g2, g3, g4, g5, g6⟩ := hd'
          have rel2 : Paired (fun (p : List Key × V) (q : List Key × Addr × Value) => p.1 = q.1 ∧ upd H s.heap.objs.size (.dT ks) q.2.1 = some (.tup (p.1.map kV)) ∧ RelV p.2 q.2.2) ks prs := L2.Paired.mapP rel fun p q z => ⟨z.1, by rw [upd_ne (fun e => by rw [e, hn] at z; cases z.2.1)]; exact z.2.1, z.2.2⟩
          exact ⟨.ref s.heap.objs.size, upd H s.heap.objs.size (.dT ks), m, I.laid (t' := tk) (fun b o e => k b o (fun z => nomatch z) e) (Nat.le_refl _) (show ObjOk X.prog X.w _ _ _ (.dT ks) from ⟨hlen, hsys, prs, rel2, ob, es, ep, g1, g2, g3, g4, g6⟩), rfl, Ext.fresh hn, q.fresh hn, .dctT (q.nin hn) upd_same (VDt.ext (Ext.fresh hn) q.muts hd)⟩
      · cases e
  · cases e⟩
end
end MP

/-! ### list(zip(xs, ys)) of two lists -/
namespace MP
open PySem PySem.W PySem.Spec PyProof.Rows L2
/-- the made tuples: rising places, each a pair -/
structure Prs (xs ys : Array Value) (lo : Addr) (h : Heap) (as : List Addr) : Prop where
  rise : as.Pairwise (· < ·)
  above : ∀ a ∈ as, lo < a
  prs : ∀ (j : Nat) (a : Addr), as[j]? = some a → ∃ x y, xs[j]? = some x ∧ ys[j]? = some y ∧ IsPair h a x y
theorem Prs.nil {xs ys : Array Value} {lo : Addr} {h : Heap} : Prs xs ys lo h [] := ⟨List.Pairwise.nil, (fun _ z => nomatch z), (fun j a z => by simp at z)⟩
theorem Prs.snoc {xs ys : Array Value} {lo : Addr} {h h' : Heap} {as : List Addr} {x y : Value} (g : Prs xs ys lo h as) (hlo : lo < h.objs.size) (ex : xs[as.length]? = some x) (ey : ys[as.length]? = some y) (new : IsPair h' h.objs.size x y) (k : ∀ a, lo < a → ∀ o, h.get? a = some o → h'.get? a = some o) : Prs xs ys lo h' (as ++ [h.objs.size]) where
  rise := List.pairwise_append.mpr ⟨g.rise, List.pairwise_singleton _ _, fun a ha b hb => by
    obtain ⟨j, hj⟩ := List.getElem?_of_mem ha
    obtain ⟨_, _, _, _, e⟩ := g.prs j a hj
    rw [List.mem_singleton.mp hb]
    exact Heap.lt_size e⟩
  above := fun a ha => by
    rcases List.mem_append.mp ha with z | z
    · exact g.above a z
    · rw [List.mem_singleton.mp z]; exact hlo
  prs := fun j a e => by
    by_cases q : j < as.length
    · rw [List.getElem?_append_left q] at e
      obtain ⟨u, v, e1, e2, e3⟩ := g.prs j a e
      exact ⟨u, v, e1, e2, k a (g.above a (List.mem_of_getElem? e)) _ e3⟩
    · by_cases q2 : j = as.length
      · subst q2
        have e' : h.objs.size = a := by simpa using e
        subst e'
        exact ⟨x, y, ex, ey, new⟩
      · rw [List.getElem?_eq_none (by rw [List.length_append, List.length_singleton]; omega)] at e
        cases e
/-- a zip of two lists that stands at its i-th turn, while a list grows at S -/
structure Zt (z TI TO i1 i2 l1 l2 S : Addr) (xs ys : Array Value) (h : Heap) (i : Nat) : Prop where
  ti : IsPair h TI (.ref i1) (.ref i2)
  ia : h.IsListIter i1 l1 i
  ib : h.IsListIter i2 l2 i
  la : h.IsList l1 xs
  lb : h.IsList l2 ys
  out : (IsZip h z TI TO .none ∧ ∃ p q, IsPair h TO p q) ∨ ∃ T f oT, IsZipHeld h z TI TO T f ∧ h.get? T = some oT ∧ T ≠ z ∧ T ≠ i1 ∧ T ≠ i2 ∧ T ≠ S
section
variable {z TI TO i1 i2 l1 l2 S : Addr} {xs ys : Array Value}
theorem Zt.frame {h h' : Heap} {i : Nat} (t : Zt z TI TO i1 i2 l1 l2 S xs ys h i) (hS : S ∉ [z, TI, TO, i1, i2, l1, l2]) (k : ∀ b o, b ≠ S → h.get? b = some o → h'.get? b = some o) : Zt z TI TO i1 i2 l1 l2 S xs ys h' i := by
  simp only [List.mem_cons, List.not_mem_nil, or_false, not_or] at hS
  obtain ⟨s1, s2, s3, s4, s5, s6, s7⟩ := hS
  refine ⟨k _ _ (Ne.symm s2) t.ti, t.ia.at fun o e => k _ o (Ne.symm s4) e, t.ib.at fun o e => k _ o (Ne.symm s5) e, t.la.at fun o e => k _ o (Ne.symm s6) e, t.lb.at fun o e => k _ o (Ne.symm s7) e, ?_⟩
  rcases t.out with ⟨g, p, q, e⟩ | ⟨T, f, oT, g, e, n1, n2, n3, n4⟩
  · exact .inl ⟨k _ _ (Ne.symm s1) g, p, q, k _ _ (Ne.symm s3) e⟩
  · exact .inr ⟨T, f, oT, k _ _ (Ne.symm s1) g, k _ _ n4 e, n1, n2, n3, n4⟩
variable {prog : Program} {w : World} {A : Around} {E : Value → Shared → Prop} {s : Shared}
theorem Zt.turn {Q : Option Value → Shared → Prop} {i : Nat} {x y : Value} (D : ZipApart z TI TO i1 i2 l1 l2) (t : Zt z TI TO i1 i2 l1 l2 S xs ys s.heap i) (hS : S < s.heap.objs.size) (ex : xs[i]? = some x) (ey : ys[i]? = some y)
    (hQ : ∀ h', Zt z TI TO i1 i2 l1 l2 S xs ys h' (i + 1) → IsPair h' s.heap.objs.size x y → (∀ c o, c ∉ [z, TO, i1, i2] → s.heap.get? c = some o → h'.get? c = some o) → Q (some (.ref s.heap.objs.size)) { s with heap := h' }) :
    wpAny (model prog w) A (pyNext (.ref z)) Q E s := by
  have apart : ∀ {c o}, s.heap.get? c = some o → s.heap.objs.size ≠ c := fun e => Nat.ne_of_gt (Heap.lt_size e)
  obtain ⟨o1, q1, _⟩ := id t.ia
  obtain ⟨o2, q2, _⟩ := id t.ib
  rcases t.out with ⟨g, p, q, e⟩ | ⟨T, f, oT, g, e, n1, n2, n3, n4⟩
  · refine wpAny_pyNext_zip_item D g t.ti e t.ia t.ib t.la t.lb ex ey fun h' b1 b2 b3 b4 b5 b6 keep => ?_
    refine hQ h' ⟨keep _ _ D.TIz D.TITO D.TIi1 D.TIi2 t.ti, b3, b4, t.la.at fun o e => keep _ o D.l1z D.l1TO D.l1i1 D.l1i2 e, t.lb.at fun o e => keep _ o D.l2z D.l2TO D.l2i1 D.l2i2 e, .inr ⟨_, false, _, b1, b5, apart g, apart q1, apart q2, Nat.ne_of_gt hS⟩⟩ b5 fun c o nc e => ?_
    simp only [List.mem_cons, List.not_mem_nil, or_false, not_or] at nc
    exact keep c o nc.1 nc.2.1 nc.2.2.1 nc.2.2.2 e
  · refine wpAny_pyNext_zip_item_held D g e t.ti t.ia t.ib t.la t.lb ex ey fun h' b1 b3 b4 b5 b6 keep => ?_
    refine hQ h' ⟨keep _ _ D.TIz D.TIi1 D.TIi2 t.ti, b3, b4, t.la.at fun o e => keep _ o D.l1z D.l1i1 D.l1i2 e, t.lb.at fun o e => keep _ o D.l2z D.l2i1 D.l2i2 e, .inr ⟨T, true, oT, b1, keep _ _ n1 n2 n3 e, n1, n2, n3, n4⟩⟩ b5 fun c o nc e => ?_
    simp only [List.mem_cons, List.not_mem_nil, or_false, not_or] at nc
    exact keep c o nc.1 nc.2.2.1 nc.2.2.2 e
theorem Zt.over {Q : Option Value → Shared → Prop} {i : Nat} (hh : A.handled = none) (D : ZipApart z TI TO i1 i2 l1 l2) (t : Zt z TI TO i1 i2 l1 l2 S xs ys s.heap i) (no : xs[i]? = none ∨ ys[i]? = none)
    (hQ : ∀ h', (∀ c o, c ∉ [z, TO, i1, i2] → s.heap.get? c = some o → h'.get? c = some o) → Q none { s with heap := h' }) : wpAny (model prog w) A (pyNext (.ref z)) Q E s := by
  rcases t.out with ⟨g, p, q, e⟩ | ⟨T, f, oT, g, e, n1, n2, n3, n4⟩
  · refine wpAny_pyNext_zip_end hh D g t.ti e t.ia t.ib t.la t.lb no fun h' keep => hQ h' fun c o nc e => ?_
    simp only [List.mem_cons, List.not_mem_nil, or_false, not_or] at nc
    exact keep c o nc.1 nc.2.1 nc.2.2.1 nc.2.2.2 e
  · refine wpAny_pyNext_zip_end_held hh D g e t.ti t.ia t.ib t.la t.lb no fun h' keep => hQ h' fun c o nc e => ?_
    simp only [List.mem_cons, List.not_mem_nil, or_false, not_or] at nc
    exact keep c o nc.1 nc.2.2.1 nc.2.2.2 e
variable {R : Result → Shared → Prop}
end
end MP

namespace MP
open PySem PySem.W PySem.Spec PyProof.Rows L2
section
variable {X : Cx} {m : List Addr} {H : Hp} {S : Sto} {h' : Heap} {sz lo : Addr} {us ws : Array Value} {as : List Addr} {vs zs : List V} {xs ys : List D}
/-- what is known when the first j of the made pairs are tracked -/
structure LayP (X : Cx) (m : List Addr) (H : Hp) (S : Sto) (h' : Heap) (sz : Addr) (as : List Addr) (xs ys : List D) (j : Nat) (H' : Hp) : Prop where
  ok : HOk X.prog X.w H' h'
  old : ∀ b o, H b = some o → H' b = some o
  low : ∀ b, b < sz → H b = none → H' b = none
  high : ∀ b, sz ≤ b → b ∉ as.take j → H' b = none
  ext : Ext m H m H'
  sr : SR X.K m H' S
  vr : VRs X.K m H' ((as.take j).map V.ref) ((zipD xs ys).take j)
end
section
variable {prog : Program} {w : World} {A : Around} {E : Value → Shared → Prop} {s : Shared} {z TI TO i1 i2 l1 l2 : Addr} {xs ys : Array Value}
end
/-- the list of the pairs of two lists -/
def gListZip : GC := fun _ ds => match ds with
  | [.lst xs, .lst ys] => if (zipD xs ys).length ≤ 100000 then some (.lst (zipD xs ys)) else none
  | _ => none
end MP

/-! ### min of a list of texts; range(i, j, 2) -/
namespace MP
open PySem PySem.W PySem.Spec PyProof.Rows L2
def minS (x : Str) (xs : List Str) : Str := xs.foldl (fun a y => if decide (y.cps.toList < a.cps.toList) then y else a) x
def gMinS : GC := fun S ds => match ds with
  | [d] => match vw S d with
    | .lst l => match strsD l with
      | some (x :: xs) => some (.str (minS x xs))
      | _ => none
    | _ => none
  | _ => none
/-- range(i, j, c), c from 1 on -/
def lRange3 (t : LA) : LI := fun ρ S => (t ρ S).bind fun ds S1 => match ds with
  | [.int i, .int j, .int c] => if 0 ≤ i ∧ i < 2 ^ 20 ∧ -(2 ^ 20) ≤ j ∧ j < 2 ^ 20 ∧ c = 2 then .ok ⟨(List.range ((j - i + 1) / 2).toNat).map fun (k : Nat) => .int (i + (k : Int) * 2), fun _ => True⟩ S1 else .bad
  | _ => .bad
end MP

/-! ### x not in [None, an object, an object], by an own __eq__ -/
namespace MP
open PySem PySem.SeqAt PySem.MeetsSeq PySem.MeetsSeq2 PySem.MeetsSeq3 PySem.SeqRoads2
open PySem.AutoSeq1 (wpAny_loadPart')
section
variable {prog : Program} {w : World} {A : Around} {R : Result → Shared → Prop}
end
end MP

namespace MP
open PySem PySem.Spec PyProof.Rows L2
section
variable {X : Cx} {C : Addr} {ts : List Tg} {gp : G2} {k : Nat} {f : Addr} {fd : FuncData} {ps : List Str} {A' : Around}
/-- what is had behind such a comparison -/
def Beh (X : Cx) (pins : List (Addr × Obj)) (σ : L2.St) (m : List Addr) (H : Hp) (S : Sto) (s' : Shared) : Prop := ∃ H' m', Inv X pins σ H' s' ∧ Ext m H m' H' ∧ SR X.K m' H' S
/-- x not in [None, d, e]: some False where e is as x is -/
def gNotIn3 (C : Addr) (ts : List Tg) (gp : G2) : G2 := fun S x y => match y with
  | .lst [.non, d, e] => match gp S x .non, gOwnEq C ts gp S d x, gOwnEq C ts gp S e x, vw S x with
    | some (.bl false), some (.bl _), some (.bl true), .obj C' _ => if C' = C then some (.bl false) else none
    | _, _, _, _ => none
  | _ => none
end
end MP

/-! ### a def with defaults -/
namespace MP
open PySem PySem.Spec PyProof.Rows L2
section
variable {P : Program} {w : World} {K : PySem.W.Frag} {mg : Str → Option Value} {base : Heap}
theorem FunD.okG {x qual : Str} {params : Arguments} {body : List Stmt} {scope : Scope} {dvs : List V} {kws : List (Str × V)} {f : Addr} {fd : FuncData} {N ps : List Str} {k : Nat} {sp : Sp} (F : FunD K x qual params body scope dvs kws f fd) (S : FnScope N ps scope) (len : ∀ vs H Q E, sp vs H Q E → vs.length = ps.length)
    (hbody : ∀ (cdv : Value) (A : Around) (outer : List Env) (s : Shared) (H : Hp) (vs : List V) (Q : VK) (E : XK), MP.Room k (A.deeper (envOfC qual scope s.heap.objs.size f cdv)) → sp vs H Q E →
      ∃ t, PSs (cxOf (L2.CX P w) P w K mg base N qual scope f cdv A outer s H E) body t ∧ t { nx := fun _ H' => Q .non H', rt := Q } (L2.start N vs) H) : MP.FnOk P w K mg base (L2.CX P w) (k + 1) f fd ps sp := by
  obtain ⟨oc, od, dV, kV, doc, pm, an, cdv, ct, osl, rfl, lk, hcd, _, _⟩ := F.ex
  exact fnG_of lk hcd S len fun A outer s H vs Q E hr hsp => hbody cdv A outer s H vs Q E hr hsp
theorem FunD.okL {x qual : Str} {params : Arguments} {body : List Stmt} {scope : Scope} {dvs : List V} {kws : List (Str × V)} {f : Addr} {fd : FuncData} {N ps : List Str} {k : Nat} {lb : LS} (Fn : FunD K x qual params body scope dvs kws f fd) (S : FnScope N ps scope)
    (hb : ∀ (cdv : Value) (A : Around) (outer : List Env) (s : Shared) (H : Hp) (E : XK), Room k (A.deeper (envOfC qual scope s.heap.objs.size f cdv)) → PSsL (cxL P w K mg base N qual scope f cdv A outer s H E) body lb) :
    FnL P w K mg base (k + 1) f fd ps (bodyF N.length lb) := by
  refine FunD.okG Fn S (fun vs H Q E h => h.1) fun cdv A outer s H vs Q E hr h => ⟨_, hb cdv A outer s H E hr, ?_⟩
  obtain ⟨hl, m, S0, ds, x0, r, nb, q1, q2⟩ := h
  refine ⟨m, ds.map some ++ List.replicate (N.length - ds.length) none, S0, x0, ?_, ?_, ?_⟩
  · exact er_start r
  · simp [L2.start, r.length]
  · have hB : ∀ a, bodyF N.length lb ds S0 = a → fin (lb (ds.map some ++ List.replicate (N.length - ds.length) none) S0) = a := fun a h => h
    generalize hA : lb (ds.map some ++ List.replicate (N.length - ds.length) none) S0 = A0 at hB
    have hb0 : bodyF N.length lb ds S0 = fin A0 := by unfold bodyF; rw [hA]
    rw [hb0] at nb q1 q2
    refine ⟨?_, fun ρ' S' e σ' H' ⟨m', e', x', er', _⟩ => ?_, fun d S' e v H' z => ?_, fun ρ' S' e => ?_, fun ρ' S' e => ?_, fun C fs ρ' S' e u s' z => ?_⟩
    · cases A0 with
      | bad => exact absurd rfl nb
      | exc C fs S' => exact absurd rfl nb
      | ok fl S' => exact ⟨fl, S', rfl⟩
    · subst e
      exact q1 .non S' rfl .non H' ⟨m', e', x', .non⟩
    · subst e
      exact q1 d S' rfl v H' z
    · subst e
      exact absurd rfl nb
    · subst e
      exact absurd rfl nb
    · subst e
      refine takes_of (E := E) rfl rfl rfl rfl u s' (XE.imp z fun cls d σ' H' w => ?_)
      obtain ⟨w1, m', w2, w4, w5, _⟩ := w
      exact q2 C fs S' rfl cls d H' ⟨w1, m', w2, w4, w5⟩
end
end MP

/-! sum of numbers, list.extend, dict(..) put into the store, is a truth, < of any data, in a tuple of texts -/
namespace MP
open PySem PySem.Spec PyProof.Rows L2
section
variable {X : Cx}
def intsOf : List D → Option (List Int)
  | [] => some []
  | .int b :: r => (intsOf r).map fun bs => b :: bs
  | _ => none
def gSum : GC := fun S ds => match ds with
  | [d] => match vw S d with
    | .lst xs => (intsOf xs).map fun bs => .int bs.sum
    | _ => none
  | _ => none
/-- x is True, x is False -/
def gIsB : G2 := fun _ x y => match x, y with
  | .bl a, .bl b => some (.bl (decide (a = b)))
  | _, _ => none
def notNon : PyData → Bool
  | .none => false
  | _ => true
/-- x < y, of any data -/
def gLtD : G2 := fun S x y => match toPD (vw S x), toPD (vw S y) with
  | some p, some q => if PySem.W.alike p q = true ∧ notNon p = true ∧ p.depth ≤ 50 then some (.bl (PySem.W.dataLt p q)) else none
  | _, _ => none
theorem opl_ltD (hu : X.A.units + 64 < cLine) : OpL X (compareOp .Lt) gLtD := ⟨fun pins s σ H m S x y dx dy d v u I q rx ry ex ey e => by
  unfold gLtD at e
  split at e
  · rename_i p p' h1 h2
    split at e
    · rename_i hz
      cases e
      obtain ⟨as, r1⟩ := Dp.reads I _ _ _ (rx.dpv q h1) ex
      obtain ⟨bs, r2⟩ := Dp.reads I _ _ _ (ry.dpv q h2) ey
      exact PySem.W.lt_data r1 r2 hz.1 (fun z => by rw [z] at hz; exact absurd hz.2.1 (by decide)) (by have := hz.2.2; omega) ⟨.bl _, H, m, I, rfl, Ext.refl, q, .bl _⟩
    · cases e
  · cases e⟩
/-- in a tuple of texts -/
def gInT : G2 := fun S x y => match vw S x, y with
  | .str i, .tup l => (strsD l).map fun ys => .bl (decide (i ∈ ys))
  | _, _ => none
def gNotInT : G2 := fun S x y => match vw S x, y with
  | .str i, .tup l => (strsD l).map fun ys => .bl (!decide (i ∈ ys))
  | _, _ => none
theorem opl_notInT : OpL X (compareOp .NotIn) gNotInT := .of op_notIn_seq fun H m S x y dx dy d q rx ry e => by
  unfold gNotInT at e
  split at e
  · rename_i i l e1
    cases hs : strsD l with
    | none => rw [hs] at e; cases e
    | some ys =>
      rw [hs] at e
      cases e
      have hl := strsD_eq hs
      subst hl
      have ex := vw_str rx e1
      subst ex
      cases ry with
      | @tup a vs _ h1 r =>
        have hv := vrs_strs r
        subst hv
        refine ⟨a, _, rfl, .inr (SqT.of h1), rfl, flat_strs ys, ?_⟩
        show QV X.K m H S _ (.bl (!inV (.str i) (ys.map V.str))) H
        rw [inV_strs]
        exact qv_same q (.bl _)
  · cases e
end
end MP

/-! list.extend by any list -/
namespace PySem.AutoSeq1
open PySem PySem.MeetsSeq
end PySem.AutoSeq1
namespace MP
open PySem PySem.Spec PyProof.Rows L2
section
variable {X : Cx}
/-- xs.extend(a list) -/
def stExt : GM := fun S r ds => match r, ds with
  | .ref j, [.lst ys] => match S[j]? with
    | some (.lst xs) => if xs.length + ys.length ≤ 100000 then some (.non, S.set j (.lst (xs ++ ys))) else none
    | _ => none
  | _, _ => none
/-- dict(pairs) into the store -/
def lDictN (t : LA) : LE := fun ρ S => (t ρ S).bind fun ds S1 => match ds with
  | [.lst xs] => match kvsOf xs with
    | some kvs => if (keysK kvs).Nodup ∧ kvs.length ≤ 100000 then .ok (.ref S1.length) (S1 ++ [.dct false kvs]) else .bad
    | none => .bad
  | _ => .bad
end
end MP

/-! int(a text of many figures): 1 and 900 noughts -/
namespace PySem.W
open PySem PySem.Calls PySem.NumText PyProof.Rows
def bigS : Str := ⟨(49 :: List.replicate 900 48).toArray⟩
end PySem.W
namespace MP
open PySem PySem.Spec PyProof.Rows L2
section
variable {X : Cx}
def gIntBig : GC := fun _ ds => match ds with
  | [.str z] => if z = PySem.W.bigS then some (.int ((10 ^ 900 : Nat) : Int)) else none
  | _ => none
end
end MP

/-! sorted(zip(a, b)), tuple(zip(a, b)) of two lists -/
namespace MP
open PySem PySem.W PySem.Spec PyProof.Rows L2
open AutoSeq1 (wpAny_loadPart')
section
variable {prog : Program} {w : World} {A : Around} {E : Value → Shared → Prop} {s : Shared} {z TI TO i1 i2 l1 l2 : Addr} {xs ys : Array Value}
end
section
variable {prog : Program} {w : World}
end
section
variable {X : Cx} {pins : List (Addr × Obj)} {σ : L2.St} {H1 : Hp} {s1 : Shared} {m1 : List Addr} {S1 : Sto}
end
/-- sorted(zip(xs, ys)) -/
def gSortZip : GC := fun S ds => match ds with
  | [dx, dy] => match vw S dx, vw S dy with
    | .lst xs, .lst ys => if (zipD xs ys).length ≤ 100000 ∧ srtOk (zipD xs ys) = true then some (.lst ((zipD xs ys).mergeSort leD)) else none
    | _, _ => none
  | _ => none
/-- tuple(zip(xs, ys)) -/
def gTupZip : GC := fun S ds => match ds with
  | [dx, dy] => match vw S dx, vw S dy with
    | .lst xs, .lst ys => if (zipD xs ys).length ≤ 100000 then some (.ftup (zipD xs ys)) else none
    | _, _ => none
  | _ => none
end MP

namespace MP
open PySem PySem.Spec PyProof.Rows L2
section
variable {P : Program} {w : World} {A : Around} {R : Result → Shared → Prop} {E : Value → Shared → Prop} {s : Shared}
end
end MP

/-! sorted(set(a tuple of texts)), len(set(a list of pairs of texts)) -/
namespace MP
open PySem PySem.Spec PyProof.Rows L2
section
variable {P : Program} {w : World} {A : Around} {R : Result → Shared → Prop} {E : Value → Shared → Prop} {s : Shared}
end
/-- sorted(set(a tuple of texts)) -/
def gSortSetT : GC := fun _ ds => match ds with
  | [.tup l] => match strsD l with
    | some ys => if ys.length ≤ 4000 then some (.lst ((srtS ys).map D.str)) else none
    | none => none
  | _ => none
/-- len(set(a list of pairs of texts)) -/
def gLenSetP : GC := fun S ds => match ds with
  | [d] => match vw S d with
    | .lst xs => match psOf xs with
      | some ps => if ps.length < 64 then some (.int ((nubP ps).length : Int)) else none
      | none => none
    | _ => none
  | _ => none
end MP

/-! what a def made and nobody reaches any more is let go; what it tells is data then -/
namespace MP
open PySem PySem.Spec PyProof.Rows L2
section
variable {K : PySem.W.Frag} {m l : List Addr} {H H' : Hp} {S S' : Sto}
theorem sr_gcw {m' : List Addr} (x : SR K m H S) (e : Ext m H m' H') (x' : SR K m' H' S') (h : ∀ (i : Nat) (o : O), S'[i]? = some o → i < S.length → S[i]? = some o ∨ belowo S.length o = true) : SR K m H' (S'.take S.length) ∧ Ext m H m H' := by
  obtain ⟨l, el⟩ := e.pre
  subst el
  have l1 := x.len
  have l2 := x'.len
  rw [List.length_append] at l2
  refine ⟨⟨x.nd, by rw [List.length_take]; omega, fun i a o h1 h2 => ?_⟩, ⟨[], by simp⟩, fun a h => .inl h, e.keep⟩
  have hi := (List.getElem?_eq_some_iff.mp h1).1
  have hi2 : i < S.length := by omega
  rw [List.getElem?_take, if_pos hi2] at h2
  have hb : belowo m.length o = true := by
    rcases h i o h2 hi2 with z | z
    · exact (x.at_ i a o h1 z).bel
    · rw [l1]; exact z
  exact (x'.at_ i a o (by rw [List.getElem?_append_left hi]; exact h1) h2).down hb
theorem qv_gcw {d : D} {v : V} (x : SR K m H S) (q : QV K m H S' d v H') (h : ∀ (i : Nat) (o : O), S'[i]? = some o → i < S.length → S[i]? = some o ∨ belowo S.length o = true) (b : below S.length (fz S' S.length d) = true) : QV K m H (S'.take S.length) (fz S' S.length d) v H' := by
  obtain ⟨m', e, x', w⟩ := q
  obtain ⟨y1, y2⟩ := sr_gcw x e x' h
  obtain ⟨l, el⟩ := e.pre
  subst el
  rw [← x.len] at b y1 ⊢
  exact ⟨m, y2, y1, w.fz_down x' b⟩
end
def Okd (S S' : Sto) : Prop := ∀ (i : Nat) (o : O), S'[i]? = some o → i < S.length → S[i]? = some o ∨ belowo S.length o = true
open Classical in
noncomputable def gcF (g : F) : F := fun ds S => match g ds S with
  | .ok d S' => if below S.length (fz S' S.length d) = true ∧ Okd S S' then .ok (fz S' S.length d) (S'.take S.length) else .ok d S'
  | r => r
theorem FnL.gc {P : Program} {w : World} {K : PySem.W.Frag} {mg : Str → Option Value} {base : Heap} {k : Nat} {f : Addr} {fd : FuncData} {ps : List Str} {g : F} (h : FnL P w K mg base k f fd ps g) : FnL P w K mg base k f fd ps (gcF g) := by
  refine FnOk.imp h fun vs H Q E ⟨hl, m, S, ds, x, r, nb, q1, q2⟩ => ⟨hl, m, S, ds, x, r, ?_⟩
  unfold gcF at nb q1 q2
  cases hg : g ds S with
  | bad => rw [hg] at nb; exact absurd rfl nb
  | exc C fs S1 =>
    rw [hg] at q1 q2
    exact ⟨fun z => (nomatch z), fun d S' e => (nomatch e), fun C' fs' S' e => by cases e; exact q2 _ _ _ rfl⟩
  | ok d S1 =>
    rw [hg] at q1 q2
    dsimp only at q1 q2
    refine ⟨fun z => (nomatch z), fun d' S' e v H' qv => ?_, fun C' fs' S' e => (nomatch e)⟩
    cases e
    by_cases hc : below S.length (fz S1 S.length d) = true ∧ Okd S S1
    · rw [if_pos hc] at q1
      exact q1 _ _ rfl v H' (qv_gcw x qv hc.2 hc.1)
    · rw [if_neg hc] at q1
      exact q1 _ _ rfl v H' qv
end MP

namespace MP
open PySem PySem.Spec PyProof.Rows L2

/-! ### enumerate(a list, start=c) (the road of L2.turn_enum, with the count apart from the place) -/
section
variable {M : Model} {A : Around} {E : Value → Shared → Prop} {s : Shared} {env : Env}
theorem callWith_typeKw {pos : Pos} {T : String} {e : Expr} {rest : List Expr} {kws : List Keyword} {Q : Value → Shared → Prop}
    (h : wpAny M A (spliced (backTo pos (starEach (e :: rest) env))) (fun vs s₁ => wpAny M A (evalAll ((backToKw pos (keywordEach kws env)).map (·.2)))
      (fun kvs s₂ => wpAny M A (call (.type T) vs (((backToKw pos (keywordEach kws env)).filterMap (·.1)).zip kvs)) Q E s₂) E s₁) E s)
    (he : backTo pos (starEach (e :: rest) env) = (false, eval e env) :: backTo pos (starEach rest env))
    (hplain : (backTo pos (starEach (e :: rest) env)).any (·.1) = false)
    (hall : (backToKw pos (keywordEach kws env)).all (·.1.isSome) = true)
    (hkw : (backToKw pos (keywordEach kws env)).any (·.1.isNone) = false) :
    wpAny M A (callWith pos (.type T) [] (backTo pos (starEach (e :: rest) env)) (backToKw pos (keywordEach kws env))) Q E s := by
  have h2 : wpAny M A (evalArgs (.type T) true (backTo pos (starEach (e :: rest) env)) (backToKw pos (keywordEach kws env))) (fun a s₁ => wpAny M A (call (.type T) ([] ++ a.pos) a.kw) Q E s₁) E s := by
    rw [he] at h ⊢
    exact evalArgs_kwB hall h
  unfold callWith
  refine wpAny_bind (wpAny_holding (wpAny_mono h2 (fun a s₁ h₁ => wpAny_bind (wpAny_standAt ?_)) fun _ _ x => x))
  simp only [hplain, hkw, Bool.or_false]
  refine wpAny_bind (wpAny_pure ?_)
  exact wpAny_bind (wpAny_mono h₁ (fun r s₂ hr => wpAny_bind (wpAny_holding (wpAny_point (wpAny_pure hr)))) fun _ _ x => x)
end
def IteC (K : PySem.W.Frag) (c : Int) (a : Addr) : It :=
  ⟨fun i H => ∃ (xs : List V) (x : V), SqL K H a xs ∧ xs[i]? = some x, fun i H v H' => ∃ T x, v = .ref T ∧ H T = none ∧ H' = upd H T (.tup [.int (c + (i : Int)), x]) ∧ ∀ xs, SqL K H a xs → xs[i]? = some x, fun i H => ∃ xs : List V, SqL K H a xs ∧ xs.length ≤ i⟩
theorem lst_iter_ne {h : Heap} {l it : Addr} {its : Array Value} {i : Nat} (p : h.IsList l its) (q : h.IsListIter it l i) : l ≠ it := by
  rintro rfl
  obtain ⟨o, h1, h2, _⟩ := p
  obtain ⟨o', h1', h2', _⟩ := q
  rw [h1] at h1'
  cases h1'
  rw [h2] at h2'
  revert h2'
  decide
theorem turn_enumC {P : Program} {w : World} {K : PySem.W.Frag} {elts : List Expr} {kk : Nat} {tpos : Pos} (c : Int) (a e it : Addr) :
    Turn P w K (.Tuple elts kk tpos) (IteC K c a) [e, it] e (fun i h => (∃ old, IsEnum h e it (c + (i : Int)) old) ∧ h.IsListIter it a i ∧ e ≠ it) where
  mem := by simp
  obj := fun i h st b hb => by
    obtain ⟨⟨old, he⟩, ⟨o, ho, hc, hd⟩, _⟩ := st
    have e' : b = e ∨ b = it := by simpa using hb
    rcases e' with z | z
    · rw [z]; exact ⟨_, he, fun v q => nomatch q⟩
    · rw [z]; exact ⟨o, ho, fun v q => by rw [hd] at q; cases q⟩
  keep := fun i h h' st k => let ⟨⟨old, he⟩, hi, hne⟩ := st; ⟨⟨old, k e (by simp) _ he⟩, hi.at fun o q => k it (by simp) o q, hne⟩
  item := by
    intro X hP hw hK hc i pins s σ H E I hf st hg
    subst hP hw hK
    obtain ⟨⟨old, he⟩, hit, hne⟩ := st
    obtain ⟨xs, x, hq, hx⟩ := hg
    obtain ⟨its, rv, p, hz⟩ := I.list hq
    obtain ⟨u, hu, ru⟩ := rv.get hx
    have hel : e < s.heap.objs.size := Heap.lt_size he
    have hil : it < s.heap.objs.size := by obtain ⟨_, q, _⟩ := hit; exact Heap.lt_size q
    have hai : a ≠ it := lst_iter_ne p.isList hit
    have hae : e ≠ a := by
      rintro rfl
      obtain ⟨o, h1, h2, _⟩ := p.isList
      have h3 : s.heap.get? e = some _ := he
      rw [h1] at h3
      cases h3
      exact absurd (Value.type.inj h2) (by decide)
    have hi : i < its.toArray.size := by
      have := (List.getElem?_eq_some_iff.mp hu).1
      simpa using this
    refine wpAny_pyNext_enum_itemC (Draws.list (A := X.A.in1) (I.ok.hd hc) it a hai its.toArray) he ⟨hit, p.isList⟩ hi hne (by simp [hne, hae]) fun y h' tk hy ho hit' hT hsz hk => ?_
    have ey : y = u := by
      have hy : its[i]? = some y := by simpa using hy
      rw [hu] at hy
      cases hy; rfl
    subst ey
    refine ⟨_, rfl, wpAny_letOwnedTupleGo_enum (s := { s with heap := h', toks := tk + 1 }) ho fun h'' he' sb => ?_⟩
    have hT2 : h''.get? s.heap.objs.size = some { cls := .type "tuple", data := .seq #[.int (c + (i : Int)) tk, y] } := (sb.2 _ (Nat.ne_of_gt hel)).trans hT
    have new : ObjOk X.prog X.w (upd H s.heap.objs.size (.tup [.int (c + (i : Int)), x])) h'' s.heap.objs.size (.tup [.int (c + (i : Int)), x]) :=
      ⟨by show 2 ≤ sizeLine; decide, [.int (c + (i : Int)) tk, y], .cons ⟨_, rfl⟩ (.cons ru .nil), ⟨_, hT2, rfl, _, rfl⟩⟩
    have I1 : Inv X pins σ (upd H s.heap.objs.size (.tup [.int (c + (i : Int)), x])) { s with heap := h'', toks := tk + 1 } :=
      I.turnedNew (ch := [e, it]) (fun b ob hb q => (sb.2 b (fun z => hb (by simp [z]))).trans (hk b ob (fun z => hb (by simp [z])) (fun z => hb (by simp [z])) q)) hf (Nat.le_refl _) new
    refine ⟨.ref s.heap.objs.size, _, I1, rfl, ⟨_, x, rfl, I.hok.fresh (Nat.le_refl _), rfl, fun ys hy => by rw [I.list_inj hy hq]; exact hx⟩, ⟨⟨y, ?_⟩, hit'.1.at fun o q => (sb.2 it (Ne.symm hne)).trans q, hne⟩, fun b hb => ?_⟩
    · have e1 : c + ((i + 1 : Nat) : Int) = c + (i : Int) + 1 := by omega
      rw [e1]; exact he'
    · have hb' : b < s.heap.objs.size := by
        have e' : b = e ∨ b = it := by simpa using hb
        rcases e' with z | z
        · rw [z]; exact hel
        · rw [z]; exact hil
      rw [upd_ne (Nat.ne_of_lt hb')]
      exact (hf b hb).1
  done := by
    intro X hP hw hK hc i pins s σ H E I hf st hg
    subst hP hw hK
    obtain ⟨⟨old, he⟩, hit, hne⟩ := st
    obtain ⟨xs, hq, hx⟩ := hg
    obtain ⟨its, rv, p, hz⟩ := I.list hq
    obtain ⟨f0, f1, f2, f3, f4, f5⟩ := hf it (by simp)
    have hl := rv.length
    have hh := I.ok.hd hc
    have hT : s.TypeIs (.ref e) "enumerate" := ⟨_, he, rfl⟩
    unfold pyNext
    refine wpAny_bind (wpAny_attempt (wpAny_callSpecial?_slot (name := Str.ofString "__next__") hT F.slot_enumerate_next
      (wpAny_call_entry F.slot_enumerate_next hT F.entry_enumerate_next ?_ (F.args_enumerate_next_1 _))))
    show wpAny _ _ (field (.ref e) 2 >>= _) _ _ _
    refine wpAny_bind (wpAny_field he rfl (x := .ref it) rfl ?_)
    refine wpAny_bind (wpAny_nextOf_list_end hh hit p.isList (by simp; omega) fun h' x eb hx' => ?_)
    obtain ⟨o, ho, hc⟩ := hx'
    refine wpAny_bind (wpAny_isInstance (T := "StopIteration") (b := true) ⟨o, ho, hc⟩ isSubtype_stop ?_)
    exact wpAny_pure ⟨rfl, I.turned (t' := s.toks) (fun b o hb q => eb b o hb q) f0 f1 f3 f4 f5⟩
  self := fun A i s Q E st h => let ⟨⟨_, he⟩, _⟩ := st; wpAny_pyIter_enum he h
def enumFD : Int → List D → List D
  | _, [] => []
  | c, x :: xs => .tup [.int c, x] :: enumFD (c + 1) xs
theorem enumFD_get : ∀ {xs : List D} {c : Int} {i : Nat} {d : D}, (enumFD c xs)[i]? = some d → ∃ x, xs[i]? = some x ∧ d = .tup [.int (c + (i : Int)), x]
  | [], _, _, _, h => by simp [enumFD] at h
  | x :: xs, c, 0, d, h => by
    simp only [enumFD, List.getElem?_cons_zero] at h
    cases h
    exact ⟨x, rfl, by simp⟩
  | x :: xs, c, i + 1, d, h => by
    simp only [enumFD, List.getElem?_cons_succ] at h
    obtain ⟨y, h1, h2⟩ := enumFD_get h
    refine ⟨y, by simpa using h1, ?_⟩
    have e1 : c + ((i + 1 : Nat) : Int) = c + 1 + (i : Int) := by omega
    rw [e1]; exact h2
theorem enumFD_length : ∀ (xs : List D) (c : Int), (enumFD c xs).length = xs.length
  | [], _ => rfl
  | x :: xs, c => by simp [enumFD, enumFD_length xs]
theorem yl_enumC {K : PySem.W.Frag} {m1 : List Addr} {H1 : Hp} {a : Addr} {vs : List V} {xs : List D} (c : Int) (mu : ∀ a ∈ m1, Mut (H1 a)) (n : a ∉ m1) (h : Rd H1 a (.lst vs)) (r : VRs K m1 H1 vs xs) : Ylds K (IteC K c a) m1 H1 ⟨enumFD c xs, fun _ => True⟩ := fun m2 H2 S2 Hx e x _ sup => by
  have h2 := e.rd n h
  have h3 : SqL K Hx a vs := by
    rcases h2 with h2 | ⟨o, h2⟩
    · exact .inl (.inl (sup _ _ h2))
    · exact .inl (.inr ⟨o, sup _ _ h2⟩)
  have r2 := r.ext e mu
  refine ⟨fun i d hi => ?_, fun i hi => ⟨vs, h3, by rw [r.length, ← enumFD_length xs c]; exact hi⟩⟩
  obtain ⟨y, hy, rfl⟩ := enumFD_get hi
  obtain ⟨v, hv, w⟩ := r2.getr hy
  refine ⟨⟨vs, v, h3, hv⟩, fun z H' q => .inr ?_⟩
  obtain ⟨T, z1, ez, hT, eH, hz⟩ := q
  have := hz vs h3
  rw [hv] at this
  cases this
  exact ⟨T, [.int (c + (i : Int)), v], _, hT, eH, ez, rfl, .cons (.int _) (.cons w .nil)⟩
def lEnumC (c : Int) (t : LA) : LI := fun ρ S => (t ρ S).bind fun ds S1 => match ds with
  | [.lst xs] => .ok ⟨enumFD c xs, fun _ => True⟩ S1
  | _ => .bad
section
variable {X : Cx} {e ek : Expr} {t : LA} {p pos kp : Pos}
theorem pil_enumC {elts : List Expr} {kk : Nat} {tpos : Pos} {c : Int} (h0 : -(2 ^ 63) ≤ c) (h1 : c < 2 ^ 63) (hg : Gl X "enumerate") (hm : X.mg "enumerate" = none) (ha : PAL X [e] t) (hk : PEL X ek (lC (.int c))) (hs : starEach [e] X.env = [(false, eval e X.env)] := by rfl) :
    PIL X (.Tuple elts kk tpos) (.Call (.Name "enumerate" p) [e] [⟨some (Str.ofString "start"), ek, kp⟩] pos) (lEnumC c t) := by
  refine ⟨fun pins s σ H Rr I ⟨m, ρ, S, x, er, hp, k⟩ => ?_⟩
  refine wpAny_Call_Name_kw (ld_blt I hg hm boot_enumerate (callWith_typeKw (run_seqA ha I x er hp fun ds S1 q1 vs us s1 H1 m1 I1 rv e1 x1 w1 r1 hp1 => ?_) ?_ ?_ rfl rfl))
  · have e0 : aCons (lC (.int c)) aNil ρ S1 = .ok [.int c] S1 := rfl
    refine thn ((pkl_cons (nm := some (Str.ofString "start")) (kpos := kp) hk pkl_nil).run pos pins s1 σ H1 m1 ρ S1 I1 x1 r1 (by rw [e0]; exact ⟨fun z => (nomatch z), fun _ _ _ z => (nomatch z)⟩)) fun ws s2 ⟨zs, S2, zv, H2, m2, q2, I2, rv2, e2, x2, w2'⟩ => ?_
    rw [e0] at q2
    cases q2
    cases w2' with
    | cons wa wb =>
      cases wb
      cases wa
      cases rv2 with
      | cons ra rb =>
        cases rb
        obtain ⟨tk, rfl⟩ := ra
        have mu2 : ∀ a ∈ m2, Mut (H2 a) := x2.muts
        have fin : ∀ {a : Addr} {vs : List V} {xs : List D}, SqL X.K H2 a vs → us = [Value.ref a] → Ylds X.K (IteC X.K c a) m2 H2 ⟨enumFD c xs, fun _ => True⟩ → lEnumC c t ρ S = .ok ⟨enumFD c xs, fun _ => True⟩ S1 → wpAny (model X.prog X.w) X.A (call (.type "enumerate") us [(Str.ofString "start", .int c tk)]) (fun itv s₂ => wpAny (model X.prog X.w) X.A (pyIter itv) (PIE X pins σ (.Tuple elts kk tpos) Rr) X.xe s₂) X.xe s2 := by
          intro a vs xs hq hu yl q2
          subst hu
          obtain ⟨its, rv', p', hz⟩ := I2.list hq
          refine enum_begins_start (begins_list a its.toArray) p'.isList h0 h1 fun h' he hit hsz hk => wpAny_pyIter_enum he ?_
          have I3 : Inv X pins σ H2 { s2 with heap := h' } := I2.kept (t' := s2.toks) hk
          have hli : h'.IsListIter s2.heap.objs.size a 0 := ⟨_, hit, rfl, rfl⟩
          refine ⟨s2.heap.objs.size + 1, [s2.heap.objs.size + 1, s2.heap.objs.size], _, _, H2, rfl, I3, turn_enumC c a (s2.heap.objs.size + 1) s2.heap.objs.size, ⟨⟨.none, ?_⟩, hli, Nat.succ_ne_self _⟩, fun b hb => ?_, k _ S1 q2 _ H2 m2 (e1.trans e2) x2 yl⟩
          · have e0 : c + ((0 : Nat) : Int) = c := by omega
            rw [e0]; exact he
          · have e' : b = s2.heap.objs.size + 1 ∨ b = s2.heap.objs.size := by simpa using hb
            have hle : s2.heap.objs.size ≤ b := by
              rcases e' with z | z
              · rw [z]; exact Nat.le_add_right _ _
              · rw [z]; exact Nat.le_refl _
            exact I2.fpOk hle (I2.hok.fresh hle)
        show wpAny _ _ (call (.type "enumerate") us [(Str.ofString "start", .int c tk)]) _ _ _
        cases w1 with
        | nil => exact absurd rfl hp1.1
        | cons w w2 =>
          cases w2 with
          | cons _ _ => cases w <;> exact absurd rfl hp1.1
          | nil =>
            cases w with
            | @lst a vs xs n h r =>
              have n2 : a ∉ m2 := fun z => by
                rcases e2.new a z with y | y
                · exact n y
                · rcases h with h | ⟨o, h⟩ <;> · rw [h] at y; cases y
              refine fin (.inl (e2.rd n h)) ?_ (yl_enumC c mu2 n2 (e2.rd n h) (r.ext e2 x1.muts)) (by unfold lEnumC; rw [q1]; rfl)
              cases rv with
              | cons r rr =>
                cases rr
                cases r
                rfl
            | @lstK a vs xs ob its n hk h1 h2 h3 h4 h5 r =>
              refine fin (a := a) (.inr ⟨ob, its, n, hk, h1, h2, h3, h4, h5⟩) ?_ (fun m3 H3 S3 Hx e x _ sup => ?_) (by unfold lEnumC; rw [q1]; rfl)
              · cases rv with
                | cons r rr =>
                  cases rr
                  cases r
                  rfl
              · have h3 : SqL X.K Hx a vs := .inr ⟨ob, its, n, hk, h1, h2, h3, h4, h5⟩
                have r2 := (r.ext e2 x1.muts).ext e mu2
                refine ⟨fun i d hi => ?_, fun i hi => ⟨vs, h3, by rw [r.length, ← enumFD_length _ c]; exact hi⟩⟩
                obtain ⟨y, hy, rfl⟩ := enumFD_get hi
                obtain ⟨v, hv, w⟩ := r2.getr hy
                refine ⟨⟨vs, v, h3, hv⟩, fun z H' q => .inr ?_⟩
                obtain ⟨T, z1, ez, hT, eH, hz⟩ := q
                have := hz vs h3
                rw [hv] at this
                cases this
                exact ⟨T, [.int (c + (i : Int)), v], _, hT, eH, ez, rfl, .cons (.int _) (.cons w .nil)⟩
            | _ => exact absurd rfl hp1.1
  · rw [hs]; rfl
  · rw [hs]; rfl
end
end MP

namespace MP
open PySem PySem.Spec PyProof.Rows L2

/-! ### a, b, o.f = e; s.partition(t); int(a text); a written dict of defs -/
section
variable {X : Cx}
def stPart : GM := fun S r ds => match r, ds with
  | .str a, [.str b] => if (b.length == 0) = false ∧ a.length ≤ sizeLine then some (.tup [.str (Txt.partition a b).1, .str (Txt.partition a b).2.1, .str (Txt.partition a b).2.2], S) else none
  | _, _ => none
theorem mtl_partition : MtL X "str.partition" stPart := ⟨fun pins s σ H m S S' x dx d xs ds v us I q r rs rv rvs e => by
  unfold stPart at e
  split at e
  · rename_i a b
    split at e
    · rename_i hz
      cases e
      cases r
      obtain ⟨w, rfl, rw'⟩ := rs.one
      cases rw'
      exact thn (mt_partition pins s σ H _ _ v us (QV X.K m H S _) I rv rvs ⟨a, b, rfl, rfl, hz.1, hz.2, fun p hp => qv_new q hp (.tup upd_same (.cons (.str _) (.cons (.str _) (.cons (.str _) .nil))))⟩) fun _ _ z => vp_of z
    · cases e
  · cases e⟩
variable {o e : Expr} {lo le : LE} {apos cpos : Pos}
theorem pel_partition (ho : PEL X o lo) (he : PEL X e le)
    (hbase : attributeBase o "partition" X.env (eval o X.env) = eval o X.env := by rfl)
    (hfew : ((backTo cpos (starEach [e] X.env)).all (fun x => !x.1) && (backToKw cpos (keywordEach [] X.env)).all (fun x => x.1.isSome)
      && decide ([e].length + ([] : List Keyword).length + (if ([] : List Keyword).isEmpty then 0 else 1) < 30)) = true := by rfl)
    (hline : (apos.endLine == cpos.line) = true := by rfl) (hs : starEach [e] X.env = (false, eval e X.env) :: starEach [] X.env := by rfl) :
    PEL X (.Call (.Attribute o "partition" apos) [e] [] cpos) (lBM "str" stPart lo (aCons le aNil)) :=
  pel_bm PySem.F.plainAttrs_str PySem.F.slot_str_partition PySem.F.type_str_partition mtl_partition ho (pal_cons he pal_nil hs) hbase hfew hline hs
def gIntS : GC := fun _ ds => match ds with
  | [.str a] => if a.length ≤ 640 then (PySem.intText? a).map .int else none
  | _ => none
theorem cl_intS : CallL X (.type "int") gIntS := .of call_int_str fun H m S xs ds d q r e => by
  unfold gIntS at e
  split at e
  · rename_i a
    split at e
    · rename_i hz
      cases z : PySem.intText? a with
      | none => rw [z] at e; cases e
      | some n =>
        rw [z] at e
        cases e
        obtain ⟨v, rfl, rv⟩ := r.one
        cases rv
        exact ⟨a, n, rfl, z, hz, qv_same q (.int _)⟩
    · cases e
  · cases e
/-- a short text, many times -/
def gMulT : G2 := fun S dx dy => match vw S dx, vw S dy with
  | .str x, .int n => if 0 ≤ n ∧ n ≤ 10000 ∧ x.length ≤ 10 ∧ (strRep x n).length ≤ sizeLine then some (.str (strRep x n)) else none
  | _, _ => none
theorem opl_mulT : OpL X (binaryOp .Mult) gMulT := ⟨fun pins s σ H m S x y dx dy d v u I q rx ry rv ru e => by
  unfold gMulT at e
  split at e
  · rename_i a n e1 e2
    split at e
    · rename_i hz
      obtain ⟨h0, h1, h2, h3⟩ := hz
      cases e
      have ea := vw_str rx e1
      have eb := vw_int ry e2
      subst ea
      subst eb
      obtain ⟨t, rfl⟩ := rv
      obtain ⟨t2, rfl⟩ := ru
      have hsz : (sizeLine : Nat) ≥ 1000000 := by rw [sizeLine_eq]; omega
      refine PySem.P.mul_str ?_ (fun a1 a2 => ?_) (fun a1 a2 => ?_) ?_
      · rw [decide_eq_false (by omega), decide_eq_false (by omega)]; rfl
      · have : (2 ^ 63 - 1) / n ≥ (2 ^ 63 - 1) / 10000 := by
          have hn : 0 < n := by omega
          rw [ge_iff_le, Int.le_ediv_iff_mul_le hn]
          have : (2 ^ 63 - 1 : Int) / 10000 * n ≤ (2 ^ 63 - 1 : Int) / 10000 * 10000 := Int.mul_le_mul_of_nonneg_left h1 (by decide)
          have z : (2 ^ 63 - 1 : Int) / 10000 * 10000 ≤ 2 ^ 63 - 1 := by decide
          omega
        have z : (2 ^ 63 - 1 : Int) / 10000 ≥ 1000 := by decide
        omega
      · unfold Builtin.Str.tooLong
        refine decide_eq_false ?_
        have : a.length * n.toNat ≤ 10 * 10000 := Nat.mul_le_mul h2 (by omega)
        omega
      · unfold strRep at h3 ⊢
        by_cases c1 : n < 1
        · rw [if_pos c1] at h3 ⊢
          rw [if_pos c1]
          exact ⟨h3, .str _, H, m, I.tok _, ⟨_, rfl⟩, Ext.refl, q, .str _⟩
        · rw [if_neg c1] at h3 ⊢
          rw [if_neg c1]
          by_cases c2 : (n == 1 || a.length == 0) = true
          · rw [if_pos c2] at h3 ⊢
            rw [if_pos c2]
            exact ⟨.str _, H, m, I, ⟨_, rfl⟩, Ext.refl, q, .str _⟩
          · rw [if_neg c2] at h3 ⊢
            rw [if_neg c2]
            exact ⟨h3, .str _, H, m, I.tok _, ⟨_, rfl⟩, Ext.refl, q, .str _⟩
    · cases e
  · cases e⟩
/-! the third target: a field of a name's object -/
def gAttr (K : PySem.W.Frag) (i : Nat) (f : Str) : TG := fun v σ H Q => ∃ a C dx fs, σ[i]? = some (some (.ref a)) ∧ H a = some (.ins C dx fs) ∧ Cls K C ∧ NoAttr K C f ∧ fs.length < 1000 ∧ Q σ (upd H a (.ins C dx (putF f v fs)))
theorem pg_attr {i : Nat} {x f : Str} {p ap : Pos} (hN : X.N[i]? = some x) (hv : Vis X.env.scope x) (hdb : (x == ("__debug__" : Str)) = false := by decide) (hcd : (x == ("__classdict__" : Str)) = false := by decide) : PG X (.Attribute (.Name x p) f ap) (gAttr X.K i f) := by
  refine ⟨fun pins s σ H v u Q I r h => ?_⟩
  obtain ⟨a, C, dx, fs, hi, ha, c, n, l, q⟩ := h
  rw [assign_Attribute]
  refine wpAny_bind (wpAny_holding (thn ((pe_var (pos := p) hN hv hdb hcd).run pins s σ H (fun v H1 => v = .ref a ∧ H1 = H) I ⟨.ref a, hi, rfl, rfl⟩) fun ov s1 ⟨w, H1, I1, r1, q1⟩ => ?_))
  obtain ⟨rfl, rfl⟩ := q1
  obtain rfl : ov = Value.ref a := r1
  refine wpAny_bind (wpAny_standAt (wpAny_bind (wpAny_holding ?_)))
  exact setattr_ok I1 ha c n l r fun s2 I2 => wpAny_release ⟨σ, _, I2, q⟩
def lAsg3F (i j k : Nat) (C : Addr) (f : Str) (le : LE) : LS := fun ρ S => liftX ρ (le ρ S) fun d S1 => match d with
  | .tup [a, b, c] => match ρ[k]? with
    | some (some (.ref r)) => if i ≠ k ∧ j ≠ k then liftS (stFld C f S1 (.ref r) c) ((ρ.set i (some a)).set j (some b)) else .bad
    | _ => .bad
  | _ => .bad
variable {x y z : Str} {pos px py pz ap tp : Pos} {kk : Nat} {C : Addr} {f : Str}
theorem psl_asg3F {i j k : Nat} (hc : X.calm = true) (cl : Cls X.K C) (na : NoAttr X.K C f) (he : PEL X e le) (hN : X.N.Nodup) (hi : X.N[i]? = some x) (hx : Loc X.env.scope x) (hj : X.N[j]? = some y) (hy : Loc X.env.scope y) (hk : X.N[k]? = some z) (hz : Vis X.env.scope z)
    (hfx : X.fn x = true ∨ X.env.scope.names.lookup x = some .local) (hfy : X.fn y = true ∨ X.env.scope.names.lookup y = some .local)
    (hs : swapsWithSole [.Tuple [.Name x px, .Name y py, .Attribute (.Name z pz) f ap] kk tp] e pos.line X.env = pure false) (hw : swappedStores [.Tuple [.Name x px, .Name y py, .Attribute (.Name z pz) f ap] kk tp] e X.env = pure none)
    (hdb : (z == ("__debug__" : Str)) = false) (hcd : (z == ("__classdict__" : Str)) = false) :
    PSL X (.Assign [.Tuple [.Name x px, .Name y py, .Attribute (.Name z pz) f ap] kk tp] e pos) (lAsg3F i j k C f le) := by
  refine ⟨fun pins s σ H D I ⟨m, ρ, S, x0, er, hl, h⟩ => ?_⟩
  refine wpAny_Assign_stores (expr_in he I x0 er hl h fun d S1 q v u s1 H1 m1 I1 rv e1 x1 w er1 h2 => ?_) hs hw
  have h1 : (assignEach [.Tuple [.Name x px, .Name y py, .Attribute (.Name z pz) f ap] kk tp] X.env).map (·.2) = [assign (.Tuple [.Name x px, .Name y py, .Attribute (.Name z pz) f ap] kk tp) X.env] := rfl
  rw [h1]
  obtain ⟨fl, S', ok⟩ := h2.ok
  split at ok
  · rename_i a b c
    split at ok
    · rename_i r hr
      split at ok
      · rename_i hne
        have hg := pg_tup (k := kk) (pos := tp) hc (pgs_cons (pg_name (pos := px) hN hi hx hfx) (pgs_cons (pg_name (pos := py) hN hj hy hfy) (pgs_cons (pg_attr (p := pz) (ap := ap) (f := f) hk hz hdb hcd) pgs_nil)))
        refine thn (hg.run pins s1 σ H1 v u (fun σ' H' => D.nx σ' H') I1 rv ?_) fun _ s2 q => q
        dsimp only at h2
        rw [hr] at h2
        dsimp only at h2
        rw [if_pos hne] at h2
        cases w with
        | @tup p vs ds hp rs =>
          cases rs with
          | @cons va _ vs1 _ wa rs =>
            cases rs with
            | @cons vb _ vs2 _ wb rs =>
              cases rs with
              | @cons vc _ vs3 _ wc rs =>
                cases rs
                obtain ⟨vk, hvk, wk⟩ := er1.at_ k _ hr
                cases q3 : stFld C f S1 (.ref r) c with
                | none => rw [q3] at h2; obtain ⟨fl, S', q⟩ := h2.ok; cases q
                | some S3 =>
                  rw [q3] at h2
                  unfold stFld at q3
                  dsimp only at q3
                  split at q3
                  · rename_i C' fs q4
                    split at q3
                    · rename_i hz0
                      obtain ⟨hC, hz0⟩ := hz0
                      subst hC
                      cases q3
                      obtain ⟨a0, rfl, ha, orr⟩ := VR.ref_at x1 wk q4
                      cases orr with
                      | @ins _ dx fs' gs hh rr =>
                        obtain ⟨e3, x3⟩ := x1.write (o' := .ins C' dx (putF f vc fs')) (ob' := .ins C' (putD f c fs)) ha fun e => .ins upd_same ((rr.put wc).ext e x1.muts)
                        have er2 : ER X.K m1 (upd H1 a0 (.ins C' dx (putF f vc fs'))) ((σ.set i (some va)).set j (some vb)) ((ρ.set i (some a)).set j (some b)) := ((er1.set wa).set wb).ext e3 x1.muts
                        refine ⟨p, [va, vb, vc], rfl, SqT.of hp, rfl, va, _, rfl, vb, _, rfl, vc, _, rfl, a0, C', dx, fs', ?_, hh, cl, na, by rw [rr.length]; exact hz0, rfl, ?_⟩
                        · rw [List.getElem?_set_ne hne.2, List.getElem?_set_ne hne.1]
                          exact hvk
                        · exact h2.nx _ _ rfl _ _ ⟨m1, e3, x3, er2, by simp [hl]⟩
                    · cases q3
                  · cases q3
      · cases ok
    · cases ok
  · cases ok
/-! ### x not in a written dict of defs; f = d[x]; return f(..) -/
def lNotKd (has : Str → Option Bool) (l : LE) : LE := fun ρ S => (l ρ S).bind fun d S1 => match d with
  | .str z => match has z with
    | some b => .ok (.bl (!b)) S1
    | none => .bad
  | _ => .bad
theorem run_notKd {d : Addr} {es : Array DictEntry} {n : Nat} {has : Str → Option Bool} {gn : Str} {pq : Pos} (Dk : KDict X.K X.w d es n) (hh : ∀ z b, has z = some b → ∃ r, PySem.W.nsIn X.K d z = some r ∧ r.isSome = b) (he : PEL X e le) (hg : Gl X gn) (hm : X.mg gn = some (.ref d))
    (hdb : (gn == ("__debug__" : Str)) = false) {pins : List (Addr × Obj)} {s : Shared} {σ : L2.St} {H : Hp} {m : List Addr} {ρ : Ev} {S : Sto} (I : Inv X pins σ H s) (x : SR X.K m H S) (r : ER X.K m H σ ρ) (hp : Hope X σ m H (lNotKd has le ρ S)) :
    wpAny (model X.prog X.w) X.A (eval e X.env) (fun v s₁ => wpAny (model X.prog X.w) X.A (eval (.Name gn pq) X.env) (fun u s₂ => wpAny (model X.prog X.w) X.A (compareOp .NotIn v u) (VPr X pins σ m H (lNotKd has le ρ S)) X.xe s₂) X.xe s₁) X.xe s := by
  refine run_seq he I x r hp fun d1 S1 q1 v u s1 H1 m1 I1 rv e1 x1 w1 r1 hp1 => ?_
  refine ld_glob I1 hg hm ?_ hdb
  split at hp1
  · rename_i z
    split at hp1
    · rename_i b hb
      have e0 : lNotKd has le ρ S = .ok (.bl (!b)) S1 := by
        unfold lNotKd
        rw [q1, bind_ok]
        dsimp only
        rw [hb]
      rw [e0]
      cases w1
      obtain ⟨r0, hr, hb0⟩ := hh z b hb
      refine thn (op_notIn_kd Dk pins s1 σ H1 _ (.ref d) u (.ref d) (fun v' H' => v' = .bl (!b) ∧ H' = H1) I1 rv rfl ⟨z, r0, rfl, rfl, hr, by rw [hb0], rfl⟩) fun u4 s4 ⟨v4, H4, I4, rv4, ev4, eH4⟩ => ?_
      subst ev4
      subst eH4
      exact (vpr_of ⟨.bl _, _, m1, I4, rv4, Ext.refl, x1, .bl _⟩).left e1
    · exact absurd rfl hp1.1
  · exact absurd rfl hp1.1
theorem ptl_notInKd {d : Addr} {es : Array DictEntry} {n : Nat} {has : Str → Option Bool} {gn : Str} {pq : Pos} (Dk : KDict X.K X.w d es n) (hh : ∀ z b, has z = some b → ∃ r, PySem.W.nsIn X.K d z = some r ∧ r.isSome = b) (he : PEL X e le) (hg : Gl X gn) (hm : X.mg gn = some (.ref d))
    (hdb : (gn == ("__debug__" : Str)) = false := by decide) (hin : behindInMarks .NotIn (.Name gn pq) = false := by first | exact nobehind _ (by decide) (by decide) | rfl) :
    PTL X (.Compare e [.NotIn] [.Name gn pq] pos) (tTru (lNotKd has le)) := by
  refine ⟨fun pins s σ H m ρ S I x r hp => ?_⟩
  have hp0 : Hope X σ m H (lNotKd has le ρ S) := by
    unfold tTru at hp
    cases z : lNotKd has le ρ S with
    | bad => rw [z] at hp; exact absurd rfl hp.1
    | exc C fs S' => rw [z] at hp; exact hp.exc
    | ok d S1 => exact Hope.ok
  refine wpAny_isTrue_Compare1 (thn (run_notKd Dk hh he hg hm hdb I x r hp0) fun v s1 h1 => thn h1 fun u s2 h2 => thn h2 fun w s3 ⟨d, S3, z, v3, H3, m3, I3, rv, e3, x3, w3⟩ => ?_) hin
  refine tru_run (s := s) z I3 rv e3 x3 w3 ?_
  unfold tTru at hp
  rw [z, bind_ok] at hp
  exact hp.ext e3
end
end MP

namespace MP
open PySem PySem.Spec PyProof.Rows L2
/-- the def that a written dict names at a text, called -/
def lTaker (i n : Nat) (sel : Str → Option F) (lk : LE) (t : LA) : LS := fun ρ S => match lk ρ S with
  | .ok (.str z) S1 => match sel z with
    | some g => if i < ρ.length then liftX (ρ.set i none) (lCall n g [] t (ρ.set i none) S1) fun d S2 => .ok (.rt d) S2 else .bad
    | none => .bad
  | _ => .bad
theorem ER.setN {K : PySem.W.Frag} {m : List Addr} {H : Hp} {σ : L2.St} {ρ : Ev} (r : ER K m H σ ρ) {i : Nat} {v : V} : ER K m H (σ.set i (some v)) (ρ.set i none) := ⟨fun j d e => by
  by_cases hj : i = j
  · subst hj
    by_cases hi : i < ρ.length
    · rw [List.getElem?_set_self hi] at e; cases e
    · rw [List.getElem?_eq_none (by simp; omega)] at e; cases e
  · rw [List.getElem?_set_ne hj] at e ⊢
    exact r.at_ j d e, by simp [r.len]⟩
section
variable {X : Cx} {e ke : Expr} {es : List Expr} {lk : LE} {t : LA} {x gn : Str} {pos1 pos2 px pg ps0 pc cpos : Pos} {k n i : Nat}
structure Sels (P : Program) (w : World) (K : PySem.W.Frag) (mg : Str → Option Value) (base : Heap) (k n : Nat) (d : Addr) (sel : Str → Option F) : Prop where
  to : ∀ z g, sel z = some g → ∃ (f : Addr) (fd : FuncData) (ps : List Str), PySem.W.nsIn K d z = some (some (.ref f)) ∧ ps.length = n ∧ FnL P w K mg base k f fd ps g ∧ PySem.W.keepIn K (.ref f) = true ∧ Binds K fd ps []
theorem pssl_taker {d : Addr} {de : Array DictEntry} {dn : Nat} {sel : Str → Option F} (hl0 : X.K.lookup d = some ⟨.type "dict", none, .dict de dn, #[]⟩) (hk0 : PySem.W.KeysLit X.w.params de.toList) (hsel : Sels X.prog X.w X.K X.mg X.base k n d sel) (hr : Room k X.A) (hg : Gl X gn) (hm : X.mg gn = some (.ref d)) (hke : PEL X ke lk) (hpi : PlainIx ke)
    (ha : PAL X (e :: es) t) (hN : X.N.Nodup) (hi : X.N[i]? = some x) (hx : Loc X.env.scope x) (hv : Vis X.env.scope x) (hf : X.fn x = true ∨ X.env.scope.names.lookup x = some .local)
    (hs : swapsWith (.Subscript (.Name gn pg) ke ps0) (some (.Name x px)) pos1.line X.env = pure false)
    (hdg : (gn == ("__debug__" : Str)) = false) (hdb : (x == ("__debug__" : Str)) = false) (hcd : (x == ("__classdict__" : Str)) = false)
    (he : starEach (e :: es) X.env = (false, eval e X.env) :: starEach es X.env) (hpl : (backTo cpos (starEach es X.env)).any (·.1) = false) :
    PSsL X [.Assign [.Name x px] (.Subscript (.Name gn pg) ke ps0) pos1, .Return (some (.Call (.Name x pc) (e :: es) [] cpos)) pos2] (lTaker i n sel lk t) := by
  have h1 : L2.PS X (.Assign [.Name x px] (.Subscript (.Name gn pg) ke ps0) pos1) _ := ps_set hN hi hx (pe_ix ix_kdict (pe_glob (pos := pg) hg hm (v := .ref d) rfl hdg) hke.pe hpi) hs hf
  have h2 : L2.PS X (.Return (some (.Call (.Name x pc) (e :: es) [] cpos)) pos2) (fun D σ H => ∃ f fd ps g m ρ S, σ[i]? = some (some (.ref f)) ∧ ps.length = n ∧ FnL X.prog X.w X.K X.mg X.base k f fd ps g ∧ PySem.W.keepIn X.K (.ref f) = true ∧ Binds X.K fd ps [] ∧ SR X.K m H S ∧ ER X.K m H σ ρ ∧ ρ.length = σ.length ∧ HS X D m H (liftX ρ (lCall n g [] t ρ S) fun d S2 => .ok (.rt d) S2)) := by
    refine ⟨fun pins s σ H D I ⟨f, fd, ps, g, m, ρ, S, hsi, hn, Fn, hk, hb, xs, er, hl, h⟩ => ?_⟩
    have hp := h.hope er hl xs
    have run : wpAny (model X.prog X.w) X.A (eval (.Call (.Name x pc) (e :: es) [] cpos) X.env) (VPr X pins σ m H (lCall n g [] t ρ S)) X.xe s := by
      refine wpAny_Call_Name_kw (thn ((pe_var (pos := pc) hi hv hdb hcd).run pins s σ H (fun v H1 => v = .ref f ∧ H1 = H) I ⟨.ref f, hsi, rfl, rfl⟩) fun u s1 ⟨v, H1, I1, r1, q1⟩ => ?_)
      obtain ⟨rfl, rfl⟩ := q1
      obtain rfl : u = Value.ref f := r1
      refine PySem.W.callWith_K (h₀ := X.base) I.ok.mod.kin hk (run_seqA ha I1 xs er hp fun ds S1 q1 vs us s1 H1 m1 I1 rv e1 x1 w1 r1 hp1 => ⟨I1.kIn, ?_⟩) he hpl
      have hl1 := hope_if hp1
      rw [if_pos hl1] at hp1
      have e0 : lCall n g [] t ρ S = g (ds ++ []) S1 := by unfold lCall; rw [q1, bind_ok, if_pos hl1]
      rw [e0]
      have hdf : Dfl X.K [] [] [] := dfl_nil
      exact thn (run_fnL Fn hr hb hdf.vals (hdf.rel _ _) I1 x1 rv w1 (by rw [List.length_append, w1.length, hn]; exact hl1) hp1) fun _ _ z => z.left e1
    refine wpAny_Return_some (thn run fun u s1 ⟨d, S1, q, v, H1, m1, I1, rv, e1, x1, w⟩ => ?_)
    rw [q] at h
    have h1 : HS X D m1 H1 (.ok (.rt d) S1) := HS.ext h e1
    exact ⟨v, σ, H1, I1, rv, h1.rt d S1 rfl v H1 (qv_same x1 w)⟩
  refine pss_imp (pss_cons h1 (pss_one h2)) fun D σ H ⟨m, ρ, S, xs, er, hl, h⟩ => ?_
  unfold lTaker at h
  obtain ⟨fl, S', ok⟩ := h.ok
  split at ok
  · rename_i z S1 q
    split at ok
    · rename_i g hz
      split at ok
      case isFalse => cases ok
      rename_i hil0
      rw [q] at h
      dsimp only at h
      rw [hz] at h
      dsimp only at h
      rw [if_pos hil0] at h
      obtain ⟨f, fd, ps, hns, hn, Fn, hk, hb⟩ := hsel.to z g hz
      refine ⟨m, ρ, S, xs, er, _, S1, q, fun v H1 qv => ?_⟩
      obtain ⟨m1, e1, x1, w1⟩ := qv
      cases w1
      refine ⟨d, z, .ref f, rfl, rfl, ⟨de, dn, .ref f, hl0, hk0, hns, rfl⟩, ?_⟩
      have hil : i < σ.length := by rw [← hl]; exact hil0
      exact ⟨f, fd, ps, g, m1, ρ.set i none, S1, List.getElem?_set_self hil, hn, Fn, hk, hb, x1, (er.ext e1 xs.muts).setN, by simp [hl], HS.ext h e1⟩
    · cases ok
  · cases ok
end
end MP

namespace MP
open PySem PySem.Spec PyProof.Rows L2
section
variable {X : Cx} {x : Str} {p pos : Pos} {k : Nat} {f C : Addr} {fd : FuncData} {ps : List Str} {g : F}
/-- C(), the object staying in the store -/
theorem pel_make0 {n : Nat} {ds0 : List Value} {dvs : List V} {dd : List D} (M : Mk X.K C f) (Fn : FnL X.prog X.w X.K X.mg X.base k f fd ps g) (hr : Room (k + 1) X.A) (hg : Gl X x) (hm : X.mg x = some (.ref C)) (hb : Binds X.K fd ps ds0) (hd : Dfl X.K dvs ds0 dd)
    (hdb : (x == ("__debug__" : Str)) = false := by decide) (hps : ps.length = n + 1 := by rfl) :
    PEL X (.Call (.Name x p) [] [] pos) (lCall n (mkF C g) dd aNil) := by
  refine ⟨fun pins s σ H m ρ S I x r hp => ?_⟩
  refine wpAny_Call_Name_kw (ld_glob I hg hm ?_ hdb)
  have hp1 : Hope X σ m H (if ([] : List D).length + dd.length = n then mkF C g ([] ++ dd) S else .bad) := hp
  have hl := hope_if hp1
  rw [if_pos hl] at hp1
  have e0 : lCall n (mkF C g) dd aNil ρ S = mkF C g ([] ++ dd) S := by show (if ([] : List D).length + dd.length = n then mkF C g ([] ++ dd) S else .bad) = _; rw [if_pos hl]
  rw [e0]
  exact PySem.W.callWith_K0 I.kIn M.kp (run_makeL (us := []) M Fn hr hb hd.vals (hd.rel _ _) I x .nil .nil (by rw [List.nil_append, (hd.rel m H).length, hps]; simpa using hl) (.refl _) hp1)
/-- a number in a tuple of two -/
def gNotInTI : G2 := fun S x y => match vw S x, y with
  | .int i, .tup [.int a, .int b] => some (.bl (!(decide (a = i) || decide (b = i))))
  | _, _ => none
theorem opl_notInTI : OpL X (compareOp .NotIn) gNotInTI := .of op_notIn_seq fun H m S x y dx dy d q rx ry e => by
  unfold gNotInTI at e
  split at e
  · rename_i i a b e1
    cases e
    have ex := vw_int rx e1
    subst ex
    cases ry with
    | @tup p vs _ h1 r =>
      cases r with
      | cons ra r =>
        cases r with
        | cons rb r =>
          cases r
          cases ra
          cases rb
          refine ⟨p, _, rfl, .inr (SqT.of h1), rfl, rfl, ?_⟩
          have e : inV (.int i) [.int a, .int b] = (decide (a = i) || decide (b = i)) := by
            by_cases h1 : a = i <;> by_cases h2 : b = i <;> simp [inV, eqV, h1, h2]
          show QV X.K m H S _ (.bl (!inV (.int i) [.int a, .int b])) H
          rw [e]
          exact qv_same q (.bl _)
  · cases e
end
end MP

/-! the end of a walk with the guards: the lines of L2.law_call and L2.walk_ofB over MP.FnOk -/
namespace MP
open PySem PySem.Spec PyProof.Rows L2
theorem law_callG {P : Program} {w : World} {K : PySem.W.Frag} {mg mb : Str → Option Value} {CX : CXT} {k : Nat} {fa a : Addr} {fd : FuncData} {x : Str} {sp : Sp} {s₁ : Shared} {vs : List Value} {ns : List Int}
    (KX : K.In s₁.heap) (hns : s₁.heap.Ns mainGlobals mg) (hb : s₁.heap.Ns builtinsNs mb) (hbb : ∀ x : Str, x ≠ "__name__" → mb x = bootBuiltins x) (hlim : s₁.heap.NoLimit) (hg : s₁.gens = #[])
    (ha : s₁.heap.get? a = some { cls := .type "list", data := .seq vs.toArray }) (hi : IntsAre vs ns) (hl : ns.length ≤ sizeLine) (hr : MP.Room k callerA)
    (F : ∀ base : Heap, K.In base → base.Ns mainGlobals mg → MP.FnOk P w K mg base CX k fa fd [x] sp) (hbind : ∀ (s : Shared) (u : Value), BindsTo s fd ⟨[u], []⟩ [(x, u)])
    (hsp : ∀ H : Hp, Only H → SqL K H a (ns.map V.int) → sp [.ref a] H (fun v _ => v = .bl true) fun _ _ _ => False)
    (hCX : ∀ H e s', CX [] H s₁ (fun _ _ _ => False) e s' → False) :
    codeAny (model P w) callerA (.call (.ref fa) ⟨[.ref a], []⟩) (fun r s' => r = .ok (.ret (.bool true)) ∧ OldK s₁.heap s'.heap ∧ s'.os = s₁.os ∧ AllBare s'.gens) s₁ := by
  have rv := vals_ints hi
  have lenV := hi.length
  -- from an abstract heap in which nothing but the script may be tracked
  have core : ∀ H : Hp, Only H → SqL K H a (ns.map V.int) → HOk P w H s₁.heap → (∀ b, H b ≠ none → b = a) → (H a ≠ none → K.lookup a = none) →
      codeAny (model P w) callerA (.call (.ref fa) ⟨[.ref a], []⟩) (fun r s' => r = .ok (.ret (.bool true)) ∧ OldK s₁.heap s'.heap ∧ s'.os = s₁.os ∧ AllBare s'.gens) s₁ := by
    intro H hO hS hok hA hK
    have base_of : ∀ {b : Addr} {o : Obj}, s₁.heap.get? b = some o → H b = none → (hidT s₁.heap H).get? b = some o := fun e n => hidT_get e n
    have noA : ∀ {b : Addr} {o : Obj} {es : Array DictEntry} {ep : Nat}, s₁.heap.get? b = some o → o.data = .dict es ep → H b = none := fun {b o es ep} e d => by
      cases q : H b with
      | none => rfl
      | some u =>
        have e' : b = a := hA b (by rw [q]; simp)
        subst e'
        rw [ha] at e; cases e
        have d' : Data.seq vs.toArray _ = Data.dict es ep := d
        cases d'
    have nsK : ∀ {b : Addr} {m : Str → Option Value}, s₁.heap.Ns b m → (hidT s₁.heap H).Ns b m := fun {b m} ⟨o, es, ep, e, d, r⟩ => ⟨o, es, ep, base_of e (noA e d), d, r⟩
    have hKb : K.In (hidT s₁.heap H) := fun b o e => base_of (KX b o e) (by
      cases q : H b with
      | none => rfl
      | some u =>
        have e' : b = a := hA b (by rw [q]; simp)
        subst e'
        rw [hK (by rw [q]; simp)] at e; cases e)
    have hM : Mod K mg (hidT s₁.heap H) := ⟨hKb, nsK hns, ⟨mb, nsK hb, hbb⟩, let ⟨mc, h1, h2⟩ := hlim; ⟨mc, nsK h1, h2⟩⟩
    have e0 : Env0 P w K mg (hidT s₁.heap H) callerA [] s₁ H := ⟨rfl, hM, fun b o e => of_hidT e, Nat.le_of_eq (hidT_size _ _), trivial, fun b hb => absurd (show b ∈ ([] : List Addr) from hb) (by simp), hok, .of_eq hg⟩
    refine codeAny_mono ((F _ hKb (nsK hns)).run callerA [] s₁ H ⟨[.ref a], []⟩ [.ref a] [.ref a] _ _ hr e0 (hbind s₁ (.ref a)) (.cons rfl .nil) (hsp H hO hS)) fun r s' h => ?_
    cases r with
    | error e => exact (hCX H e s' h).elim
    | ok fl =>
      cases fl with
      | next => exact False.elim h
      | brk => exact False.elim h
      | cont => exact False.elim h
      | ret u =>
        obtain ⟨v, H', os, bare, un, hok', r', q⟩ := h
        have q' : v = .bl true := q
        subst q'
        obtain rfl : u = Value.bool true := r'
        refine ⟨rfl, OldK.of_keep fun b o e => ?_, os, bare⟩
        cases q : H b with
        | none => exact un.keep b o e q (by intro z; exact absurd (show b ∈ ([] : List Addr) from z) (by simp)) (by simp)
        | some u =>
          rcases hO b with z | ⟨ob, xs, z⟩
          · rw [q] at z; cases z
          · have z2 := un.frzs b ob _ z
            obtain ⟨e1, _⟩ := hok b _ z
            obtain ⟨e2, _⟩ := hok' b _ z2
            rw [e] at e1; cases e1
            exact e2
  cases hk : K.lookup a with
  | some o =>
    -- the script is one of the module's own objects
    have e := KX a o hk
    rw [ha] at e
    cases e
    refine core (fun _ => none) (fun _ => .inl rfl) (.inr ⟨_, vs.toArray, _, hk, rfl, rfl, rfl, by rw [List.size_toArray, lenV]; exact hl, by simpa using rv⟩) (fun b u z => by have z' : (none : Option HO) = some u := z; cases z') (fun b z => absurd rfl z) fun z => absurd rfl z
  | none =>
    refine core (fun b => if b = a then some (.frz { cls := .type "list", data := .seq vs.toArray } (.lst (ns.map V.int))) else none) (fun b => ?_) (.inl (.inr ⟨{ cls := .type "list", data := .seq vs.toArray }, if_pos rfl⟩)) (fun b u z => ?_) (fun b z => ?_) fun _ => hk
    · by_cases hb : b = a
      · exact .inr ⟨_, _, if_pos hb⟩
      · exact .inl (if_neg hb)
    · by_cases hb : b = a
      · have z' := (if_pos hb).symm.trans z
        cases z'
        subst hb
        exact ⟨ha, by rw [List.length_map]; exact hl, vs, _, rv, ha⟩
      · have z' := (if_neg hb).symm.trans z
        cases z'
    · by_cases hb : b = a
      · exact hb
      · exact absurd (if_neg hb) z
theorem walk_ofG {l : PySem.W.OpenLaw} {n k : Nat} {q : Program} {loose : List Str} {XP : (Str → Option Value) → Heap → Prop} {YP : World → Heap → Prop} {d : DefRec} {K : Params → PySem.W.Frag} {CX : World → CXT} {sp : World → Sp} {x : Str}
    (hn : l.most = some n) (hn2 : n ≤ sizeLine) (hdf : d.params.defaults = []) (hr : MP.Room k callerA)
    (hY : ∀ (w : World) (h : Heap), YP w h → (K w.params).In h)
    (F : ∀ (w : World) (mg : Str → Option Value) (fa : Addr) (h : Heap), (K w.params).In h → h.Ns mainGlobals mg → mg d.name = some (.ref fa) →
      ∃ fd : FuncData, (∀ (s : Shared) (u : Value), BindsTo s fd ⟨[u], []⟩ [(x, u)]) ∧
        ∀ base : Heap, (K w.params).In base → base.Ns mainGlobals mg → MP.FnOk l.prog w (K w.params) mg base (CX w) k fa fd [x] (sp w))
    (hsp : ∀ (w : World) (H : Hp) (a : Addr) (ns : List Int), ns.length ≤ n → (∀ z ∈ ns, Builtin.Int.intBits z ≤ 1048576) → Only H → SqL (K w.params) H a (ns.map V.int) → sp w [.ref a] H (fun v _ => v = .bl true) fun _ _ _ => False)
    (hCX : ∀ (w : World) (H : Hp) (s : Shared) (e : Value) (s' : Shared), CX w [] H s (fun _ _ _ => False) e s' → False) :
    PySem.W.WalkO q loose XP YP l.row.toRowW d [] (fun f vs => PySem.call f vs) := by
  refine Att.attach_callB hn hdf fun w s₀ s₁ mg mb fa o pm cd doc a vs ns G Y ho hd hcd hmg hobj hints hlen hbits hg => ?_
  have KX := hY w _ Y
  obtain ⟨fd, hb, hF⟩ := F w mg fa _ KX G.T.g hmg
  exact law_callG KX G.T.g G.T.b G.T.builtins G.T.nolimit hg hobj hints (Nat.le_trans hlen hn2) hr hF hb (fun H hO hS => hsp w H a ns hlen hbits hO hS) fun H e s' => hCX w H s₁ e s'
theorem room_caller {k : Nat} (h : L2.Room k callerA) : MP.Room k callerA := ⟨h, rfl⟩
end MP

namespace K60
open PySem PySem.Spec PyProof.Rows L2 MP
def top (i : Nat) : Stmt := PySem.Challenge.pw_lotgivers_k60_texts_of_anything.main.body.getD i (.Pass ⟨0, 0, 0, 0⟩)
abbrev s_NoText___init__ : Stmt := inClass (top 6) 0
abbrev N_NoText___init__ : List Str := ["self", "row"]
theorem sc_NoText___init__ : FnScope N_NoText___init__ ["self", "row"] (defScope s_NoText___init__) := ⟨rfl, rfl, rfl, by decide +kernel, rfl, by decide +kernel, by decide +kernel⟩
abbrev s_is_name : Stmt := top 12
abbrev N_is_name : List Str := ["thing", "letter"]
theorem sc_is_name : FnScope N_is_name ["thing"] (defScope s_is_name) := ⟨rfl, rfl, rfl, by decide +kernel, rfl, by decide +kernel, by decide +kernel⟩
abbrev s_is_pair : Stmt := top 13
abbrev N_is_pair : List Str := ["thing"]
theorem sc_is_pair : FnScope N_is_pair ["thing"] (defScope s_is_pair) := ⟨rfl, rfl, rfl, by decide +kernel, rfl, by decide +kernel, by decide +kernel⟩
abbrev s_does_rise : Stmt := top 14
abbrev N_does_rise : List Str := ["things", "one", "other"]
theorem sc_does_rise : FnScope N_does_rise ["things"] (defScope s_does_rise) := ⟨rfl, rfl, rfl, by decide +kernel, rfl, by decide +kernel, by decide +kernel⟩
abbrev s_are_pairs : Stmt := top 15
abbrev N_are_pairs : List Str := ["thing", "one"]
theorem sc_are_pairs : FnScope N_are_pairs ["thing"] (defScope s_are_pairs) := ⟨rfl, rfl, rfl, by decide +kernel, rfl, by decide +kernel, by decide +kernel⟩
abbrev s_Circle___init__ : Stmt := inClass (top 19) 0
abbrev N_Circle___init__ : List Str := ["self", "members", "bars", "past", "gap", "pair", "year"]
theorem sc_Circle___init__ : FnScope N_Circle___init__ ["self", "members", "bars", "past", "gap"] (defScope s_Circle___init__) := ⟨rfl, rfl, rfl, by decide +kernel, rfl, by decide +kernel, by decide +kernel⟩
abbrev s_are_drawn : Stmt := top 21
abbrev N_are_drawn : List Str := ["thing", "givers_here", "giver", "taker"]
theorem sc_are_drawn : FnScope N_are_drawn ["thing"] (defScope s_are_drawn) := ⟨rfl, rfl, rfl, by decide +kernel, rfl, by decide +kernel, by decide +kernel⟩
abbrev s_Drawing___init__ : Stmt := inClass (top 22) 0
abbrev N_Drawing___init__ : List Str := ["self", "pairs"]
theorem sc_Drawing___init__ : FnScope N_Drawing___init__ ["self", "pairs"] (defScope s_Drawing___init__) := ⟨rfl, rfl, rfl, by decide +kernel, rfl, by decide +kernel, by decide +kernel⟩
abbrev s_is_number_text : Stmt := top 26
abbrev N_is_number_text : List Str := ["text", "sign"]
theorem sc_is_number_text : FnScope N_is_number_text ["text"] (defScope s_is_number_text) := ⟨rfl, rfl, rfl, by decide +kernel, rfl, by decide +kernel, by decide +kernel⟩
abbrev s_comes_behind : Stmt := top 27
abbrev N_comes_behind : List Str := ["things", "thing"]
theorem sc_comes_behind : FnScope N_comes_behind ["things", "thing"] (defScope s_comes_behind) := ⟨rfl, rfl, rfl, by decide +kernel, rfl, by decide +kernel, by decide +kernel⟩
abbrev s_member_taken : Stmt := top 28
abbrev N_member_taken : List Str := ["reader", "words", "word", "member"]
theorem sc_member_taken : FnScope N_member_taken ["reader", "words"] (defScope s_member_taken) := ⟨rfl, rfl, rfl, by decide +kernel, rfl, by decide +kernel, by decide +kernel⟩
abbrev s_bar_taken : Stmt := top 29
abbrev N_bar_taken : List Str := ["reader", "words", "word", "pair"]
theorem sc_bar_taken : FnScope N_bar_taken ["reader", "words"] (defScope s_bar_taken) := ⟨rfl, rfl, rfl, by decide +kernel, rfl, by decide +kernel, by decide +kernel⟩
abbrev s_year_taken : Stmt := top 30
abbrev N_year_taken : List Str := ["reader", "words"]
theorem sc_year_taken : FnScope N_year_taken ["reader", "words"] (defScope s_year_taken) := ⟨rfl, rfl, rfl, by decide +kernel, rfl, by decide +kernel, by decide +kernel⟩
abbrev s_pair_taken : Stmt := top 31
abbrev N_pair_taken : List Str := ["reader", "words", "pair"]
theorem sc_pair_taken : FnScope N_pair_taken ["reader", "words"] (defScope s_pair_taken) := ⟨rfl, rfl, rfl, by decide +kernel, rfl, by decide +kernel, by decide +kernel⟩
abbrev s_CircleReader___init__ : Stmt := inClass (top 33) 0
abbrev N_CircleReader___init__ : List Str := ["self"]
theorem sc_CircleReader___init__ : FnScope N_CircleReader___init__ ["self"] (defScope s_CircleReader___init__) := ⟨rfl, rfl, rfl, by decide +kernel, rfl, by decide +kernel, by decide +kernel⟩
abbrev s_CircleReader_take_head : Stmt := inClass (top 33) 1
abbrev N_CircleReader_take_head : List Str := ["self", "row", "begin", "between"]
theorem sc_CircleReader_take_head : FnScope N_CircleReader_take_head ["self", "row"] (defScope s_CircleReader_take_head) := ⟨rfl, rfl, rfl, by decide +kernel, rfl, by decide +kernel, by decide +kernel⟩
abbrev s_CircleReader_take_row : Stmt := inClass (top 33) 2
abbrev N_CircleReader_take_row : List Str := ["self", "row", "words", "taker"]
theorem sc_CircleReader_take_row : FnScope N_CircleReader_take_row ["self", "row"] (defScope s_CircleReader_take_row) := ⟨rfl, rfl, rfl, by decide +kernel, rfl, by decide +kernel, by decide +kernel⟩
abbrev s_CircleReader_circle_told : Stmt := inClass (top 33) 3
abbrev N_CircleReader_circle_told : List Str := ["self", "years", "year"]
theorem sc_CircleReader_circle_told : FnScope N_CircleReader_circle_told ["self"] (defScope s_CircleReader_circle_told) := ⟨rfl, rfl, rfl, by decide +kernel, rfl, by decide +kernel, by decide +kernel⟩
abbrev s_read_circle : Stmt := top 34
abbrev N_read_circle : List Str := ["text", "reader", "rows", "number", "row"]
theorem sc_read_circle : FnScope N_read_circle ["text"] (defScope s_read_circle) := ⟨rfl, rfl, rfl, by decide +kernel, rfl, by decide +kernel, by decide +kernel⟩
abbrev s_still_to_give : Stmt := top 35
abbrev N_still_to_give : List Str := ["pairs", "givers", "giver", "taker"]
theorem sc_still_to_give : FnScope N_still_to_give ["pairs"] (defScope s_still_to_give) := ⟨rfl, rfl, rfl, by decide +kernel, rfl, by decide +kernel, by decide +kernel⟩
abbrev s_may_go_on : Stmt := top 36
abbrev N_may_go_on : List Str := ["pairs", "words", "giver", "taker"]
theorem sc_may_go_on : FnScope N_may_go_on ["pairs", "words"] (defScope s_may_go_on) := ⟨rfl, rfl, rfl, by decide +kernel, rfl, by decide +kernel, by decide +kernel⟩
abbrev s_read_drawing : Stmt := top 37
abbrev N_read_drawing : List Str := ["text", "pairs", "rows", "number", "row", "words"]
theorem sc_read_drawing : FnScope N_read_drawing ["text"] (defScope s_read_drawing) := ⟨rfl, rfl, rfl, by decide +kernel, rfl, by decide +kernel, by decide +kernel⟩
abbrev s__law_pot : Stmt := top 39
abbrev N__law_pot : List Str := ["_law_script", "_law_k", "_law_cell", "_law_seed"]
theorem sc__law_pot : FnScope N__law_pot ["_law_script", "_law_k"] (defScope s__law_pot) := ⟨rfl, rfl, rfl, by decide +kernel, rfl, by decide +kernel, by decide +kernel⟩
abbrev s__law_pick : Stmt := top 40
abbrev N__law_pick : List Str := ["_law_pot_here", "_law_most", "_law_digit", "_law_step", "_law_twice"]
theorem sc__law_pick : FnScope N__law_pick ["_law_pot_here", "_law_most"] (defScope s__law_pick) := ⟨rfl, rfl, rfl, by decide +kernel, rfl, by decide +kernel, by decide +kernel⟩
abbrev s__law_of : Stmt := top 41
abbrev N__law_of : List Str := ["_law_pot_here", "_law_some"]
theorem sc__law_of : FnScope N__law_of ["_law_pot_here", "_law_some"] (defScope s__law_of) := ⟨rfl, rfl, rfl, by decide +kernel, rfl, by decide +kernel, by decide +kernel⟩
abbrev s__law_row_of : Stmt := top 42
abbrev N__law_row_of : List Str := ["_law_thing", "_law_way", "_law_row", "_law_others", "e"]
theorem sc__law_row_of : FnScope N__law_row_of ["_law_thing", "_law_way"] (defScope s__law_row_of) := ⟨rfl, rfl, rfl, by decide +kernel, rfl, by decide +kernel, by decide +kernel⟩
abbrev s__law_nested : Stmt := top 43
abbrev N__law_nested : List Str := ["_law_pot_here", "_law_thing", "_law_turn"]
theorem sc__law_nested : FnScope N__law_nested ["_law_pot_here", "_law_thing"] (defScope s__law_nested) := ⟨rfl, rfl, rfl, by decide +kernel, rfl, by decide +kernel, by decide +kernel⟩
abbrev s__law_circles : Stmt := top 44
abbrev N__law_circles : List Str := ["_law_word", "_law_some"]
theorem sc__law_circles : FnScope N__law_circles ["_law_word"] (defScope s__law_circles) := ⟨rfl, rfl, rfl, by decide +kernel, rfl, by decide +kernel, by decide +kernel⟩
abbrev s__law_drawings : Stmt := top 45
abbrev N__law_drawings : List Str := ["_law_word", "_law_some"]
theorem sc__law_drawings : FnScope N__law_drawings ["_law_word"] (defScope s__law_drawings) := ⟨rfl, rfl, rfl, by decide +kernel, rfl, by decide +kernel, by decide +kernel⟩
abbrev s_law : Stmt := top 46
abbrev N_law : List Str := ["_law_script", "_law_k", "_law_pot_here", "_law_word", "_law_good", "_law_written", "_law_row", "_law_odd", "_law_thing", "_law_one", "_law_figures", "_law_sign", "_law_bad", "_law_size", "_law_number"]
theorem sc_law : FnScope N_law ["_law_script"] (defScope s_law) := ⟨rfl, rfl, rfl, by decide +kernel, rfl, by decide +kernel, by decide +kernel⟩
structure T60f (K : PySem.W.Frag) (mg : Str → Option Value) where
  C_Drawing : Addr
  C_Circle : Addr
  C_CircleReader : Addr
  tk_LETTERS : Tok
  tk_MOST_LETTERS : Tok
  tk_FIGURE_SIGNS : Tok
  tk_MOST_FIGURES : Tok
  f_is_name : Addr
  fd_is_name : FuncData
  F_is_name : Fun K "is_name" "is_name" s_is_name f_is_name fd_is_name
  b_is_name : Binds K fd_is_name ["thing"] []
  mg_is_name : mg "is_name" = some (.ref f_is_name)
  f_is_pair : Addr
  fd_is_pair : FuncData
  F_is_pair : Fun K "is_pair" "is_pair" s_is_pair f_is_pair fd_is_pair
  b_is_pair : Binds K fd_is_pair ["thing"] []
  mg_is_pair : mg "is_pair" = some (.ref f_is_pair)
  f_does_rise : Addr
  fd_does_rise : FuncData
  F_does_rise : Fun K "does_rise" "does_rise" s_does_rise f_does_rise fd_does_rise
  b_does_rise : Binds K fd_does_rise ["things"] []
  mg_does_rise : mg "does_rise" = some (.ref f_does_rise)
  f_are_pairs : Addr
  fd_are_pairs : FuncData
  F_are_pairs : Fun K "are_pairs" "are_pairs" s_are_pairs f_are_pairs fd_are_pairs
  b_are_pairs : Binds K fd_are_pairs ["thing"] []
  mg_are_pairs : mg "are_pairs" = some (.ref f_are_pairs)
  f_Circle___init__ : Addr
  fd_Circle___init__ : FuncData
  F_Circle___init__ : FunD K "__init__" "Circle.__init__" (defArgs s_Circle___init__) (defBody s_Circle___init__) (defScope s_Circle___init__) [.non, .non, .int 1] [] f_Circle___init__ fd_Circle___init__
  a_Circle___init__ : PySem.W.findIn K (.ref C_Circle) "__init__" = some (some (.ref f_Circle___init__))
  i_Circle___init__ : PySem.W.isFn K (.ref f_Circle___init__) = true
  f_are_drawn : Addr
  fd_are_drawn : FuncData
  F_are_drawn : Fun K "are_drawn" "are_drawn" s_are_drawn f_are_drawn fd_are_drawn
  b_are_drawn : Binds K fd_are_drawn ["thing"] []
  mg_are_drawn : mg "are_drawn" = some (.ref f_are_drawn)
  f_Drawing___init__ : Addr
  fd_Drawing___init__ : FuncData
  F_Drawing___init__ : Fun K "__init__" "Drawing.__init__" s_Drawing___init__ f_Drawing___init__ fd_Drawing___init__
  b_Drawing___init__ : Binds K fd_Drawing___init__ ["self", "pairs"] []
  a_Drawing___init__ : PySem.W.findIn K (.ref C_Drawing) "__init__" = some (some (.ref f_Drawing___init__))
  i_Drawing___init__ : PySem.W.isFn K (.ref f_Drawing___init__) = true
  f_is_number_text : Addr
  fd_is_number_text : FuncData
  F_is_number_text : Fun K "is_number_text" "is_number_text" s_is_number_text f_is_number_text fd_is_number_text
  b_is_number_text : Binds K fd_is_number_text ["text"] []
  mg_is_number_text : mg "is_number_text" = some (.ref f_is_number_text)
  f_comes_behind : Addr
  fd_comes_behind : FuncData
  F_comes_behind : Fun K "comes_behind" "comes_behind" s_comes_behind f_comes_behind fd_comes_behind
  b_comes_behind : Binds K fd_comes_behind ["things", "thing"] []
  mg_comes_behind : mg "comes_behind" = some (.ref f_comes_behind)
  f_member_taken : Addr
  fd_member_taken : FuncData
  F_member_taken : Fun K "member_taken" "member_taken" s_member_taken f_member_taken fd_member_taken
  b_member_taken : Binds K fd_member_taken ["reader", "words"] []
  mg_member_taken : mg "member_taken" = some (.ref f_member_taken)
  f_bar_taken : Addr
  fd_bar_taken : FuncData
  F_bar_taken : Fun K "bar_taken" "bar_taken" s_bar_taken f_bar_taken fd_bar_taken
  b_bar_taken : Binds K fd_bar_taken ["reader", "words"] []
  mg_bar_taken : mg "bar_taken" = some (.ref f_bar_taken)
  f_year_taken : Addr
  fd_year_taken : FuncData
  F_year_taken : Fun K "year_taken" "year_taken" s_year_taken f_year_taken fd_year_taken
  b_year_taken : Binds K fd_year_taken ["reader", "words"] []
  mg_year_taken : mg "year_taken" = some (.ref f_year_taken)
  f_pair_taken : Addr
  fd_pair_taken : FuncData
  F_pair_taken : Fun K "pair_taken" "pair_taken" s_pair_taken f_pair_taken fd_pair_taken
  b_pair_taken : Binds K fd_pair_taken ["reader", "words"] []
  mg_pair_taken : mg "pair_taken" = some (.ref f_pair_taken)
  f_CircleReader___init__ : Addr
  fd_CircleReader___init__ : FuncData
  F_CircleReader___init__ : Fun K "__init__" "CircleReader.__init__" s_CircleReader___init__ f_CircleReader___init__ fd_CircleReader___init__
  b_CircleReader___init__ : Binds K fd_CircleReader___init__ ["self"] []
  a_CircleReader___init__ : PySem.W.findIn K (.ref C_CircleReader) "__init__" = some (some (.ref f_CircleReader___init__))
  i_CircleReader___init__ : PySem.W.isFn K (.ref f_CircleReader___init__) = true
  f_CircleReader_take_head : Addr
  fd_CircleReader_take_head : FuncData
  F_CircleReader_take_head : Fun K "take_head" "CircleReader.take_head" s_CircleReader_take_head f_CircleReader_take_head fd_CircleReader_take_head
  b_CircleReader_take_head : Binds K fd_CircleReader_take_head ["self", "row"] []
  a_CircleReader_take_head : PySem.W.findIn K (.ref C_CircleReader) "take_head" = some (some (.ref f_CircleReader_take_head))
  i_CircleReader_take_head : PySem.W.isFn K (.ref f_CircleReader_take_head) = true
  mt_CircleReader_take_head : Meth K C_CircleReader "take_head" f_CircleReader_take_head
  f_CircleReader_take_row : Addr
  fd_CircleReader_take_row : FuncData
  F_CircleReader_take_row : Fun K "take_row" "CircleReader.take_row" s_CircleReader_take_row f_CircleReader_take_row fd_CircleReader_take_row
  b_CircleReader_take_row : Binds K fd_CircleReader_take_row ["self", "row"] []
  a_CircleReader_take_row : PySem.W.findIn K (.ref C_CircleReader) "take_row" = some (some (.ref f_CircleReader_take_row))
  i_CircleReader_take_row : PySem.W.isFn K (.ref f_CircleReader_take_row) = true
  mt_CircleReader_take_row : Meth K C_CircleReader "take_row" f_CircleReader_take_row
  f_CircleReader_circle_told : Addr
  fd_CircleReader_circle_told : FuncData
  F_CircleReader_circle_told : Fun K "circle_told" "CircleReader.circle_told" s_CircleReader_circle_told f_CircleReader_circle_told fd_CircleReader_circle_told
  b_CircleReader_circle_told : Binds K fd_CircleReader_circle_told ["self"] []
  a_CircleReader_circle_told : PySem.W.findIn K (.ref C_CircleReader) "circle_told" = some (some (.ref f_CircleReader_circle_told))
  i_CircleReader_circle_told : PySem.W.isFn K (.ref f_CircleReader_circle_told) = true
  mt_CircleReader_circle_told : Meth K C_CircleReader "circle_told" f_CircleReader_circle_told
  f_read_circle : Addr
  fd_read_circle : FuncData
  F_read_circle : Fun K "read_circle" "read_circle" s_read_circle f_read_circle fd_read_circle
  b_read_circle : Binds K fd_read_circle ["text"] []
  mg_read_circle : mg "read_circle" = some (.ref f_read_circle)
  f_still_to_give : Addr
  fd_still_to_give : FuncData
  F_still_to_give : Fun K "still_to_give" "still_to_give" s_still_to_give f_still_to_give fd_still_to_give
  b_still_to_give : Binds K fd_still_to_give ["pairs"] []
  mg_still_to_give : mg "still_to_give" = some (.ref f_still_to_give)
  f_may_go_on : Addr
  fd_may_go_on : FuncData
  F_may_go_on : Fun K "may_go_on" "may_go_on" s_may_go_on f_may_go_on fd_may_go_on
  b_may_go_on : Binds K fd_may_go_on ["pairs", "words"] []
  mg_may_go_on : mg "may_go_on" = some (.ref f_may_go_on)
  f_read_drawing : Addr
  fd_read_drawing : FuncData
  F_read_drawing : Fun K "read_drawing" "read_drawing" s_read_drawing f_read_drawing fd_read_drawing
  b_read_drawing : Binds K fd_read_drawing ["text"] []
  mg_read_drawing : mg "read_drawing" = some (.ref f_read_drawing)
  f__law_pot : Addr
  fd__law_pot : FuncData
  F__law_pot : Fun K "_law_pot" "_law_pot" s__law_pot f__law_pot fd__law_pot
  b__law_pot : Binds K fd__law_pot ["_law_script", "_law_k"] []
  mg__law_pot : mg "_law_pot" = some (.ref f__law_pot)
  f__law_pick : Addr
  fd__law_pick : FuncData
  F__law_pick : Fun K "_law_pick" "_law_pick" s__law_pick f__law_pick fd__law_pick
  b__law_pick : Binds K fd__law_pick ["_law_pot_here", "_law_most"] []
  mg__law_pick : mg "_law_pick" = some (.ref f__law_pick)
  f__law_of : Addr
  fd__law_of : FuncData
  F__law_of : Fun K "_law_of" "_law_of" s__law_of f__law_of fd__law_of
  b__law_of : Binds K fd__law_of ["_law_pot_here", "_law_some"] []
  mg__law_of : mg "_law_of" = some (.ref f__law_of)
  f__law_row_of : Addr
  fd__law_row_of : FuncData
  F__law_row_of : Fun K "_law_row_of" "_law_row_of" s__law_row_of f__law_row_of fd__law_row_of
  b__law_row_of : Binds K fd__law_row_of ["_law_thing", "_law_way"] []
  mg__law_row_of : mg "_law_row_of" = some (.ref f__law_row_of)
  f__law_nested : Addr
  fd__law_nested : FuncData
  F__law_nested : Fun K "_law_nested" "_law_nested" s__law_nested f__law_nested fd__law_nested
  b__law_nested : Binds K fd__law_nested ["_law_pot_here", "_law_thing"] []
  mg__law_nested : mg "_law_nested" = some (.ref f__law_nested)
  f__law_circles : Addr
  fd__law_circles : FuncData
  F__law_circles : Fun K "_law_circles" "_law_circles" s__law_circles f__law_circles fd__law_circles
  b__law_circles : Binds K fd__law_circles ["_law_word"] []
  mg__law_circles : mg "_law_circles" = some (.ref f__law_circles)
  f__law_drawings : Addr
  fd__law_drawings : FuncData
  F__law_drawings : Fun K "_law_drawings" "_law_drawings" s__law_drawings f__law_drawings fd__law_drawings
  b__law_drawings : Binds K fd__law_drawings ["_law_word"] []
  mg__law_drawings : mg "_law_drawings" = some (.ref f__law_drawings)
  f_law : Addr
  fd_law : FuncData
  F_law : Fun K "law" "law" s_law f_law fd_law
  b_law : Binds K fd_law ["_law_script"] []
  mg_law : mg "law" = some (.ref f_law)
  mg_Drawing : mg "Drawing" = some (.ref C_Drawing)
  cl_Drawing : Cls K C_Drawing
  mk_Drawing : Mk K C_Drawing f_Drawing___init__
  ok_Drawing : OwnOk K C_Drawing
  na_Drawing_pairs : NoAttr K C_Drawing "pairs"
  mg_Circle : mg "Circle" = some (.ref C_Circle)
  cl_Circle : Cls K C_Circle
  mk_Circle : Mk K C_Circle f_Circle___init__
  ok_Circle : OwnOk K C_Circle
  na_Circle_members : NoAttr K C_Circle "members"
  na_Circle_bars : NoAttr K C_Circle "bars"
  na_Circle_past : NoAttr K C_Circle "past"
  na_Circle_gap : NoAttr K C_Circle "gap"
  na_Circle_houses : NoAttr K C_Circle "houses"
  na_Circle_names_told : NoAttr K C_Circle "names_told"
  na_Circle_barred : NoAttr K C_Circle "barred"
  na_Circle_gone_by : NoAttr K C_Circle "gone_by"
  mg_CircleReader : mg "CircleReader" = some (.ref C_CircleReader)
  cl_CircleReader : Cls K C_CircleReader
  mk_CircleReader : Mk K C_CircleReader f_CircleReader___init__
  ok_CircleReader : OwnOk K C_CircleReader
  na_CircleReader_last_kind : NoAttr K C_CircleReader "last_kind"
  na_CircleReader_gap_text : NoAttr K C_CircleReader "gap_text"
  na_CircleReader_members_told : NoAttr K C_CircleReader "members_told"
  na_CircleReader_bars_told : NoAttr K C_CircleReader "bars_told"
  na_CircleReader_years_told : NoAttr K C_CircleReader "years_told"
  mg_LETTERS : mg "LETTERS" = some (.str "abcdefghijklmnopqrstuvwxyz" tk_LETTERS)
  mg_MOST_LETTERS : mg "MOST_LETTERS" = some (.int 12 tk_MOST_LETTERS)
  mg_FIGURE_SIGNS : mg "FIGURE_SIGNS" = some (.str "0123456789" tk_FIGURE_SIGNS)
  mg_MOST_FIGURES : mg "MOST_FIGURES" = some (.int 30 tk_MOST_FIGURES)
  n_len : mg "len" = none
  n_abs : mg "abs" = none
  n_all : mg "all" = none
  n_any : mg "any" = none
  n_range : mg "range" = none
  n_isinstance : mg "isinstance" = none
  n_list : mg "list" = none
  n_tuple : mg "tuple" = none
  n_str : mg "str" = none
  n_max : mg "max" = none
  n_min : mg "min" = none
  n_dict : mg "dict" = none
  n_int : mg "int" = none
  n_bool : mg "bool" = none
  n_enumerate : mg "enumerate" = none
  n_zip : mg "zip" = none
  n_set : mg "set" = none
  n_sorted : mg "sorted" = none
def T60f_mk {K : PySem.W.Frag} {h : Heap} {mg : Str → Option Value} (X : K.In h) (G : h.Ns mainGlobals mg)
    {C_CircleReader : Addr}
    {C_Circle : Addr}
    {C_Drawing : Addr}
    {f_is_name : Addr} {od_is_name an_is_name : Option Addr} {sl_is_name : Array (Option Value)} {oc_is_name kV_is_name dc_is_name pm_is_name cd_is_name ct_is_name : Value}
    {f_is_pair : Addr} {od_is_pair an_is_pair : Option Addr} {sl_is_pair : Array (Option Value)} {oc_is_pair kV_is_pair dc_is_pair pm_is_pair cd_is_pair ct_is_pair : Value}
    {f_does_rise : Addr} {od_does_rise an_does_rise : Option Addr} {sl_does_rise : Array (Option Value)} {oc_does_rise kV_does_rise dc_does_rise pm_does_rise cd_does_rise ct_does_rise : Value}
    {f_are_pairs : Addr} {od_are_pairs an_are_pairs : Option Addr} {sl_are_pairs : Array (Option Value)} {oc_are_pairs kV_are_pairs dc_are_pairs pm_are_pairs cd_are_pairs ct_are_pairs : Value}
    {f_Circle___init__ : Addr} {od_Circle___init__ an_Circle___init__ : Option Addr} {sl_Circle___init__ : Array (Option Value)} {oc_Circle___init__ kV_Circle___init__ dc_Circle___init__ pm_Circle___init__ cd_Circle___init__ ct_Circle___init__ : Value}
    {dV_Circle___init__ : Value}
    {f_are_drawn : Addr} {od_are_drawn an_are_drawn : Option Addr} {sl_are_drawn : Array (Option Value)} {oc_are_drawn kV_are_drawn dc_are_drawn pm_are_drawn cd_are_drawn ct_are_drawn : Value}
    {f_Drawing___init__ : Addr} {od_Drawing___init__ an_Drawing___init__ : Option Addr} {sl_Drawing___init__ : Array (Option Value)} {oc_Drawing___init__ kV_Drawing___init__ dc_Drawing___init__ pm_Drawing___init__ cd_Drawing___init__ ct_Drawing___init__ : Value}
    {f_is_number_text : Addr} {od_is_number_text an_is_number_text : Option Addr} {sl_is_number_text : Array (Option Value)} {oc_is_number_text kV_is_number_text dc_is_number_text pm_is_number_text cd_is_number_text ct_is_number_text : Value}
    {f_comes_behind : Addr} {od_comes_behind an_comes_behind : Option Addr} {sl_comes_behind : Array (Option Value)} {oc_comes_behind kV_comes_behind dc_comes_behind pm_comes_behind cd_comes_behind ct_comes_behind : Value}
    {f_member_taken : Addr} {od_member_taken an_member_taken : Option Addr} {sl_member_taken : Array (Option Value)} {oc_member_taken kV_member_taken dc_member_taken pm_member_taken cd_member_taken ct_member_taken : Value}
    {f_bar_taken : Addr} {od_bar_taken an_bar_taken : Option Addr} {sl_bar_taken : Array (Option Value)} {oc_bar_taken kV_bar_taken dc_bar_taken pm_bar_taken cd_bar_taken ct_bar_taken : Value}
    {f_year_taken : Addr} {od_year_taken an_year_taken : Option Addr} {sl_year_taken : Array (Option Value)} {oc_year_taken kV_year_taken dc_year_taken pm_year_taken cd_year_taken ct_year_taken : Value}
    {f_pair_taken : Addr} {od_pair_taken an_pair_taken : Option Addr} {sl_pair_taken : Array (Option Value)} {oc_pair_taken kV_pair_taken dc_pair_taken pm_pair_taken cd_pair_taken ct_pair_taken : Value}
    {f_CircleReader___init__ : Addr} {od_CircleReader___init__ an_CircleReader___init__ : Option Addr} {sl_CircleReader___init__ : Array (Option Value)} {oc_CircleReader___init__ kV_CircleReader___init__ dc_CircleReader___init__ pm_CircleReader___init__ cd_CircleReader___init__ ct_CircleReader___init__ : Value}
    {f_CircleReader_take_head : Addr} {od_CircleReader_take_head an_CircleReader_take_head : Option Addr} {sl_CircleReader_take_head : Array (Option Value)} {oc_CircleReader_take_head kV_CircleReader_take_head dc_CircleReader_take_head pm_CircleReader_take_head cd_CircleReader_take_head ct_CircleReader_take_head : Value}
    {f_CircleReader_take_row : Addr} {od_CircleReader_take_row an_CircleReader_take_row : Option Addr} {sl_CircleReader_take_row : Array (Option Value)} {oc_CircleReader_take_row kV_CircleReader_take_row dc_CircleReader_take_row pm_CircleReader_take_row cd_CircleReader_take_row ct_CircleReader_take_row : Value}
    {f_CircleReader_circle_told : Addr} {od_CircleReader_circle_told an_CircleReader_circle_told : Option Addr} {sl_CircleReader_circle_told : Array (Option Value)} {oc_CircleReader_circle_told kV_CircleReader_circle_told dc_CircleReader_circle_told pm_CircleReader_circle_told cd_CircleReader_circle_told ct_CircleReader_circle_told : Value}
    {f_read_circle : Addr} {od_read_circle an_read_circle : Option Addr} {sl_read_circle : Array (Option Value)} {oc_read_circle kV_read_circle dc_read_circle pm_read_circle cd_read_circle ct_read_circle : Value}
    {f_still_to_give : Addr} {od_still_to_give an_still_to_give : Option Addr} {sl_still_to_give : Array (Option Value)} {oc_still_to_give kV_still_to_give dc_still_to_give pm_still_to_give cd_still_to_give ct_still_to_give : Value}
    {f_may_go_on : Addr} {od_may_go_on an_may_go_on : Option Addr} {sl_may_go_on : Array (Option Value)} {oc_may_go_on kV_may_go_on dc_may_go_on pm_may_go_on cd_may_go_on ct_may_go_on : Value}
    {f_read_drawing : Addr} {od_read_drawing an_read_drawing : Option Addr} {sl_read_drawing : Array (Option Value)} {oc_read_drawing kV_read_drawing dc_read_drawing pm_read_drawing cd_read_drawing ct_read_drawing : Value}
    {f__law_pot : Addr} {od__law_pot an__law_pot : Option Addr} {sl__law_pot : Array (Option Value)} {oc__law_pot kV__law_pot dc__law_pot pm__law_pot cd__law_pot ct__law_pot : Value}
    {f__law_pick : Addr} {od__law_pick an__law_pick : Option Addr} {sl__law_pick : Array (Option Value)} {oc__law_pick kV__law_pick dc__law_pick pm__law_pick cd__law_pick ct__law_pick : Value}
    {f__law_of : Addr} {od__law_of an__law_of : Option Addr} {sl__law_of : Array (Option Value)} {oc__law_of kV__law_of dc__law_of pm__law_of cd__law_of ct__law_of : Value}
    {f__law_row_of : Addr} {od__law_row_of an__law_row_of : Option Addr} {sl__law_row_of : Array (Option Value)} {oc__law_row_of kV__law_row_of dc__law_row_of pm__law_row_of cd__law_row_of ct__law_row_of : Value}
    {f__law_nested : Addr} {od__law_nested an__law_nested : Option Addr} {sl__law_nested : Array (Option Value)} {oc__law_nested kV__law_nested dc__law_nested pm__law_nested cd__law_nested ct__law_nested : Value}
    {f__law_circles : Addr} {od__law_circles an__law_circles : Option Addr} {sl__law_circles : Array (Option Value)} {oc__law_circles kV__law_circles dc__law_circles pm__law_circles cd__law_circles ct__law_circles : Value}
    {f__law_drawings : Addr} {od__law_drawings an__law_drawings : Option Addr} {sl__law_drawings : Array (Option Value)} {oc__law_drawings kV__law_drawings dc__law_drawings pm__law_drawings cd__law_drawings ct__law_drawings : Value}
    {f_law : Addr} {od_law an_law : Option Addr} {sl_law : Array (Option Value)} {oc_law kV_law dc_law pm_law cd_law ct_law : Value}
    {tk_LETTERS : Tok}
    {tk_MOST_LETTERS : Tok}
    {tk_FIGURE_SIGNS : Tok}
    {tk_MOST_FIGURES : Tok}
    (aC_Drawing : PySem.W.nsIn K mainGlobals "Drawing" = some (some (.ref C_Drawing)))
    (aC_Circle : PySem.W.nsIn K mainGlobals "Circle" = some (some (.ref C_Circle)))
    (aC_CircleReader : PySem.W.nsIn K mainGlobals "CircleReader" = some (some (.ref C_CircleReader)))
    (a_is_name : PySem.W.nsIn K mainGlobals "is_name" = some (some (.ref f_is_name)))
    (l_is_name : K.lookup f_is_name = some ⟨oc_is_name, od_is_name, .func (PySem.W.fnOf "is_name" "is_name" (defArgs s_is_name) (defBody s_is_name) (defScope s_is_name) .none kV_is_name dc_is_name pm_is_name an_is_name cd_is_name ct_is_name), sl_is_name⟩)
    (c_is_name : PySem.W.codeIn K cd_is_name "is_name" = true)
    (k_is_name : PySem.W.keepIn K (.ref f_is_name) = true)
    (a_is_pair : PySem.W.nsIn K mainGlobals "is_pair" = some (some (.ref f_is_pair)))
    (l_is_pair : K.lookup f_is_pair = some ⟨oc_is_pair, od_is_pair, .func (PySem.W.fnOf "is_pair" "is_pair" (defArgs s_is_pair) (defBody s_is_pair) (defScope s_is_pair) .none kV_is_pair dc_is_pair pm_is_pair an_is_pair cd_is_pair ct_is_pair), sl_is_pair⟩)
    (c_is_pair : PySem.W.codeIn K cd_is_pair "is_pair" = true)
    (k_is_pair : PySem.W.keepIn K (.ref f_is_pair) = true)
    (a_does_rise : PySem.W.nsIn K mainGlobals "does_rise" = some (some (.ref f_does_rise)))
    (l_does_rise : K.lookup f_does_rise = some ⟨oc_does_rise, od_does_rise, .func (PySem.W.fnOf "does_rise" "does_rise" (defArgs s_does_rise) (defBody s_does_rise) (defScope s_does_rise) .none kV_does_rise dc_does_rise pm_does_rise an_does_rise cd_does_rise ct_does_rise), sl_does_rise⟩)
    (c_does_rise : PySem.W.codeIn K cd_does_rise "does_rise" = true)
    (k_does_rise : PySem.W.keepIn K (.ref f_does_rise) = true)
    (a_are_pairs : PySem.W.nsIn K mainGlobals "are_pairs" = some (some (.ref f_are_pairs)))
    (l_are_pairs : K.lookup f_are_pairs = some ⟨oc_are_pairs, od_are_pairs, .func (PySem.W.fnOf "are_pairs" "are_pairs" (defArgs s_are_pairs) (defBody s_are_pairs) (defScope s_are_pairs) .none kV_are_pairs dc_are_pairs pm_are_pairs an_are_pairs cd_are_pairs ct_are_pairs), sl_are_pairs⟩)
    (c_are_pairs : PySem.W.codeIn K cd_are_pairs "are_pairs" = true)
    (k_are_pairs : PySem.W.keepIn K (.ref f_are_pairs) = true)
    (a_Circle___init__ : PySem.W.findIn K (.ref C_Circle) "__init__" = some (some (.ref f_Circle___init__)))
    (i_Circle___init__ : PySem.W.isFn K (.ref f_Circle___init__) = true)
    (l_Circle___init__ : K.lookup f_Circle___init__ = some ⟨oc_Circle___init__, od_Circle___init__, .func (PySem.W.fnOf "__init__" "Circle.__init__" (defArgs s_Circle___init__) (defBody s_Circle___init__) (defScope s_Circle___init__) dV_Circle___init__ kV_Circle___init__ dc_Circle___init__ pm_Circle___init__ an_Circle___init__ cd_Circle___init__ ct_Circle___init__), sl_Circle___init__⟩)
    (c_Circle___init__ : PySem.W.codeIn K cd_Circle___init__ "Circle.__init__" = true)
    (k_Circle___init__ : PySem.W.keepIn K (.ref f_Circle___init__) = true)
    (dv_Circle___init__ : DflV K dV_Circle___init__ [.non, .non, .int 1])
    (a_are_drawn : PySem.W.nsIn K mainGlobals "are_drawn" = some (some (.ref f_are_drawn)))
    (l_are_drawn : K.lookup f_are_drawn = some ⟨oc_are_drawn, od_are_drawn, .func (PySem.W.fnOf "are_drawn" "are_drawn" (defArgs s_are_drawn) (defBody s_are_drawn) (defScope s_are_drawn) .none kV_are_drawn dc_are_drawn pm_are_drawn an_are_drawn cd_are_drawn ct_are_drawn), sl_are_drawn⟩)
    (c_are_drawn : PySem.W.codeIn K cd_are_drawn "are_drawn" = true)
    (k_are_drawn : PySem.W.keepIn K (.ref f_are_drawn) = true)
    (a_Drawing___init__ : PySem.W.findIn K (.ref C_Drawing) "__init__" = some (some (.ref f_Drawing___init__)))
    (i_Drawing___init__ : PySem.W.isFn K (.ref f_Drawing___init__) = true)
    (l_Drawing___init__ : K.lookup f_Drawing___init__ = some ⟨oc_Drawing___init__, od_Drawing___init__, .func (PySem.W.fnOf "__init__" "Drawing.__init__" (defArgs s_Drawing___init__) (defBody s_Drawing___init__) (defScope s_Drawing___init__) .none kV_Drawing___init__ dc_Drawing___init__ pm_Drawing___init__ an_Drawing___init__ cd_Drawing___init__ ct_Drawing___init__), sl_Drawing___init__⟩)
    (c_Drawing___init__ : PySem.W.codeIn K cd_Drawing___init__ "Drawing.__init__" = true)
    (k_Drawing___init__ : PySem.W.keepIn K (.ref f_Drawing___init__) = true)
    (a_is_number_text : PySem.W.nsIn K mainGlobals "is_number_text" = some (some (.ref f_is_number_text)))
    (l_is_number_text : K.lookup f_is_number_text = some ⟨oc_is_number_text, od_is_number_text, .func (PySem.W.fnOf "is_number_text" "is_number_text" (defArgs s_is_number_text) (defBody s_is_number_text) (defScope s_is_number_text) .none kV_is_number_text dc_is_number_text pm_is_number_text an_is_number_text cd_is_number_text ct_is_number_text), sl_is_number_text⟩)
    (c_is_number_text : PySem.W.codeIn K cd_is_number_text "is_number_text" = true)
    (k_is_number_text : PySem.W.keepIn K (.ref f_is_number_text) = true)
    (a_comes_behind : PySem.W.nsIn K mainGlobals "comes_behind" = some (some (.ref f_comes_behind)))
    (l_comes_behind : K.lookup f_comes_behind = some ⟨oc_comes_behind, od_comes_behind, .func (PySem.W.fnOf "comes_behind" "comes_behind" (defArgs s_comes_behind) (defBody s_comes_behind) (defScope s_comes_behind) .none kV_comes_behind dc_comes_behind pm_comes_behind an_comes_behind cd_comes_behind ct_comes_behind), sl_comes_behind⟩)
    (c_comes_behind : PySem.W.codeIn K cd_comes_behind "comes_behind" = true)
    (k_comes_behind : PySem.W.keepIn K (.ref f_comes_behind) = true)
    (a_member_taken : PySem.W.nsIn K mainGlobals "member_taken" = some (some (.ref f_member_taken)))
    (l_member_taken : K.lookup f_member_taken = some ⟨oc_member_taken, od_member_taken, .func (PySem.W.fnOf "member_taken" "member_taken" (defArgs s_member_taken) (defBody s_member_taken) (defScope s_member_taken) .none kV_member_taken dc_member_taken pm_member_taken an_member_taken cd_member_taken ct_member_taken), sl_member_taken⟩)
    (c_member_taken : PySem.W.codeIn K cd_member_taken "member_taken" = true)
    (k_member_taken : PySem.W.keepIn K (.ref f_member_taken) = true)
    (a_bar_taken : PySem.W.nsIn K mainGlobals "bar_taken" = some (some (.ref f_bar_taken)))
    (l_bar_taken : K.lookup f_bar_taken = some ⟨oc_bar_taken, od_bar_taken, .func (PySem.W.fnOf "bar_taken" "bar_taken" (defArgs s_bar_taken) (defBody s_bar_taken) (defScope s_bar_taken) .none kV_bar_taken dc_bar_taken pm_bar_taken an_bar_taken cd_bar_taken ct_bar_taken), sl_bar_taken⟩)
    (c_bar_taken : PySem.W.codeIn K cd_bar_taken "bar_taken" = true)
    (k_bar_taken : PySem.W.keepIn K (.ref f_bar_taken) = true)
    (a_year_taken : PySem.W.nsIn K mainGlobals "year_taken" = some (some (.ref f_year_taken)))
    (l_year_taken : K.lookup f_year_taken = some ⟨oc_year_taken, od_year_taken, .func (PySem.W.fnOf "year_taken" "year_taken" (defArgs s_year_taken) (defBody s_year_taken) (defScope s_year_taken) .none kV_year_taken dc_year_taken pm_year_taken an_year_taken cd_year_taken ct_year_taken), sl_year_taken⟩)
    (c_year_taken : PySem.W.codeIn K cd_year_taken "year_taken" = true)
    (k_year_taken : PySem.W.keepIn K (.ref f_year_taken) = true)
    (a_pair_taken : PySem.W.nsIn K mainGlobals "pair_taken" = some (some (.ref f_pair_taken)))
    (l_pair_taken : K.lookup f_pair_taken = some ⟨oc_pair_taken, od_pair_taken, .func (PySem.W.fnOf "pair_taken" "pair_taken" (defArgs s_pair_taken) (defBody s_pair_taken) (defScope s_pair_taken) .none kV_pair_taken dc_pair_taken pm_pair_taken an_pair_taken cd_pair_taken ct_pair_taken), sl_pair_taken⟩)
    (c_pair_taken : PySem.W.codeIn K cd_pair_taken "pair_taken" = true)
    (k_pair_taken : PySem.W.keepIn K (.ref f_pair_taken) = true)
    (a_CircleReader___init__ : PySem.W.findIn K (.ref C_CircleReader) "__init__" = some (some (.ref f_CircleReader___init__)))
    (i_CircleReader___init__ : PySem.W.isFn K (.ref f_CircleReader___init__) = true)
    (l_CircleReader___init__ : K.lookup f_CircleReader___init__ = some ⟨oc_CircleReader___init__, od_CircleReader___init__, .func (PySem.W.fnOf "__init__" "CircleReader.__init__" (defArgs s_CircleReader___init__) (defBody s_CircleReader___init__) (defScope s_CircleReader___init__) .none kV_CircleReader___init__ dc_CircleReader___init__ pm_CircleReader___init__ an_CircleReader___init__ cd_CircleReader___init__ ct_CircleReader___init__), sl_CircleReader___init__⟩)
    (c_CircleReader___init__ : PySem.W.codeIn K cd_CircleReader___init__ "CircleReader.__init__" = true)
    (k_CircleReader___init__ : PySem.W.keepIn K (.ref f_CircleReader___init__) = true)
    (a_CircleReader_take_head : PySem.W.findIn K (.ref C_CircleReader) "take_head" = some (some (.ref f_CircleReader_take_head)))
    (i_CircleReader_take_head : PySem.W.isFn K (.ref f_CircleReader_take_head) = true)
    (l_CircleReader_take_head : K.lookup f_CircleReader_take_head = some ⟨oc_CircleReader_take_head, od_CircleReader_take_head, .func (PySem.W.fnOf "take_head" "CircleReader.take_head" (defArgs s_CircleReader_take_head) (defBody s_CircleReader_take_head) (defScope s_CircleReader_take_head) .none kV_CircleReader_take_head dc_CircleReader_take_head pm_CircleReader_take_head an_CircleReader_take_head cd_CircleReader_take_head ct_CircleReader_take_head), sl_CircleReader_take_head⟩)
    (c_CircleReader_take_head : PySem.W.codeIn K cd_CircleReader_take_head "CircleReader.take_head" = true)
    (k_CircleReader_take_head : PySem.W.keepIn K (.ref f_CircleReader_take_head) = true)
    (a_CircleReader_take_row : PySem.W.findIn K (.ref C_CircleReader) "take_row" = some (some (.ref f_CircleReader_take_row)))
    (i_CircleReader_take_row : PySem.W.isFn K (.ref f_CircleReader_take_row) = true)
    (l_CircleReader_take_row : K.lookup f_CircleReader_take_row = some ⟨oc_CircleReader_take_row, od_CircleReader_take_row, .func (PySem.W.fnOf "take_row" "CircleReader.take_row" (defArgs s_CircleReader_take_row) (defBody s_CircleReader_take_row) (defScope s_CircleReader_take_row) .none kV_CircleReader_take_row dc_CircleReader_take_row pm_CircleReader_take_row an_CircleReader_take_row cd_CircleReader_take_row ct_CircleReader_take_row), sl_CircleReader_take_row⟩)
    (c_CircleReader_take_row : PySem.W.codeIn K cd_CircleReader_take_row "CircleReader.take_row" = true)
    (k_CircleReader_take_row : PySem.W.keepIn K (.ref f_CircleReader_take_row) = true)
    (a_CircleReader_circle_told : PySem.W.findIn K (.ref C_CircleReader) "circle_told" = some (some (.ref f_CircleReader_circle_told)))
    (i_CircleReader_circle_told : PySem.W.isFn K (.ref f_CircleReader_circle_told) = true)
    (l_CircleReader_circle_told : K.lookup f_CircleReader_circle_told = some ⟨oc_CircleReader_circle_told, od_CircleReader_circle_told, .func (PySem.W.fnOf "circle_told" "CircleReader.circle_told" (defArgs s_CircleReader_circle_told) (defBody s_CircleReader_circle_told) (defScope s_CircleReader_circle_told) .none kV_CircleReader_circle_told dc_CircleReader_circle_told pm_CircleReader_circle_told an_CircleReader_circle_told cd_CircleReader_circle_told ct_CircleReader_circle_told), sl_CircleReader_circle_told⟩)
    (c_CircleReader_circle_told : PySem.W.codeIn K cd_CircleReader_circle_told "CircleReader.circle_told" = true)
    (k_CircleReader_circle_told : PySem.W.keepIn K (.ref f_CircleReader_circle_told) = true)
    (a_read_circle : PySem.W.nsIn K mainGlobals "read_circle" = some (some (.ref f_read_circle)))
    (l_read_circle : K.lookup f_read_circle = some ⟨oc_read_circle, od_read_circle, .func (PySem.W.fnOf "read_circle" "read_circle" (defArgs s_read_circle) (defBody s_read_circle) (defScope s_read_circle) .none kV_read_circle dc_read_circle pm_read_circle an_read_circle cd_read_circle ct_read_circle), sl_read_circle⟩)
    (c_read_circle : PySem.W.codeIn K cd_read_circle "read_circle" = true)
    (k_read_circle : PySem.W.keepIn K (.ref f_read_circle) = true)
    (a_still_to_give : PySem.W.nsIn K mainGlobals "still_to_give" = some (some (.ref f_still_to_give)))
    (l_still_to_give : K.lookup f_still_to_give = some ⟨oc_still_to_give, od_still_to_give, .func (PySem.W.fnOf "still_to_give" "still_to_give" (defArgs s_still_to_give) (defBody s_still_to_give) (defScope s_still_to_give) .none kV_still_to_give dc_still_to_give pm_still_to_give an_still_to_give cd_still_to_give ct_still_to_give), sl_still_to_give⟩)
    (c_still_to_give : PySem.W.codeIn K cd_still_to_give "still_to_give" = true)
    (k_still_to_give : PySem.W.keepIn K (.ref f_still_to_give) = true)
    (a_may_go_on : PySem.W.nsIn K mainGlobals "may_go_on" = some (some (.ref f_may_go_on)))
    (l_may_go_on : K.lookup f_may_go_on = some ⟨oc_may_go_on, od_may_go_on, .func (PySem.W.fnOf "may_go_on" "may_go_on" (defArgs s_may_go_on) (defBody s_may_go_on) (defScope s_may_go_on) .none kV_may_go_on dc_may_go_on pm_may_go_on an_may_go_on cd_may_go_on ct_may_go_on), sl_may_go_on⟩)
    (c_may_go_on : PySem.W.codeIn K cd_may_go_on "may_go_on" = true)
    (k_may_go_on : PySem.W.keepIn K (.ref f_may_go_on) = true)
    (a_read_drawing : PySem.W.nsIn K mainGlobals "read_drawing" = some (some (.ref f_read_drawing)))
    (l_read_drawing : K.lookup f_read_drawing = some ⟨oc_read_drawing, od_read_drawing, .func (PySem.W.fnOf "read_drawing" "read_drawing" (defArgs s_read_drawing) (defBody s_read_drawing) (defScope s_read_drawing) .none kV_read_drawing dc_read_drawing pm_read_drawing an_read_drawing cd_read_drawing ct_read_drawing), sl_read_drawing⟩)
    (c_read_drawing : PySem.W.codeIn K cd_read_drawing "read_drawing" = true)
    (k_read_drawing : PySem.W.keepIn K (.ref f_read_drawing) = true)
    (a__law_pot : PySem.W.nsIn K mainGlobals "_law_pot" = some (some (.ref f__law_pot)))
    (l__law_pot : K.lookup f__law_pot = some ⟨oc__law_pot, od__law_pot, .func (PySem.W.fnOf "_law_pot" "_law_pot" (defArgs s__law_pot) (defBody s__law_pot) (defScope s__law_pot) .none kV__law_pot dc__law_pot pm__law_pot an__law_pot cd__law_pot ct__law_pot), sl__law_pot⟩)
    (c__law_pot : PySem.W.codeIn K cd__law_pot "_law_pot" = true)
    (k__law_pot : PySem.W.keepIn K (.ref f__law_pot) = true)
    (a__law_pick : PySem.W.nsIn K mainGlobals "_law_pick" = some (some (.ref f__law_pick)))
    (l__law_pick : K.lookup f__law_pick = some ⟨oc__law_pick, od__law_pick, .func (PySem.W.fnOf "_law_pick" "_law_pick" (defArgs s__law_pick) (defBody s__law_pick) (defScope s__law_pick) .none kV__law_pick dc__law_pick pm__law_pick an__law_pick cd__law_pick ct__law_pick), sl__law_pick⟩)
    (c__law_pick : PySem.W.codeIn K cd__law_pick "_law_pick" = true)
    (k__law_pick : PySem.W.keepIn K (.ref f__law_pick) = true)
    (a__law_of : PySem.W.nsIn K mainGlobals "_law_of" = some (some (.ref f__law_of)))
    (l__law_of : K.lookup f__law_of = some ⟨oc__law_of, od__law_of, .func (PySem.W.fnOf "_law_of" "_law_of" (defArgs s__law_of) (defBody s__law_of) (defScope s__law_of) .none kV__law_of dc__law_of pm__law_of an__law_of cd__law_of ct__law_of), sl__law_of⟩)
    (c__law_of : PySem.W.codeIn K cd__law_of "_law_of" = true)
    (k__law_of : PySem.W.keepIn K (.ref f__law_of) = true)
    (a__law_row_of : PySem.W.nsIn K mainGlobals "_law_row_of" = some (some (.ref f__law_row_of)))
    (l__law_row_of : K.lookup f__law_row_of = some ⟨oc__law_row_of, od__law_row_of, .func (PySem.W.fnOf "_law_row_of" "_law_row_of" (defArgs s__law_row_of) (defBody s__law_row_of) (defScope s__law_row_of) .none kV__law_row_of dc__law_row_of pm__law_row_of an__law_row_of cd__law_row_of ct__law_row_of), sl__law_row_of⟩)
    (c__law_row_of : PySem.W.codeIn K cd__law_row_of "_law_row_of" = true)
    (k__law_row_of : PySem.W.keepIn K (.ref f__law_row_of) = true)
    (a__law_nested : PySem.W.nsIn K mainGlobals "_law_nested" = some (some (.ref f__law_nested)))
    (l__law_nested : K.lookup f__law_nested = some ⟨oc__law_nested, od__law_nested, .func (PySem.W.fnOf "_law_nested" "_law_nested" (defArgs s__law_nested) (defBody s__law_nested) (defScope s__law_nested) .none kV__law_nested dc__law_nested pm__law_nested an__law_nested cd__law_nested ct__law_nested), sl__law_nested⟩)
    (c__law_nested : PySem.W.codeIn K cd__law_nested "_law_nested" = true)
    (k__law_nested : PySem.W.keepIn K (.ref f__law_nested) = true)
    (a__law_circles : PySem.W.nsIn K mainGlobals "_law_circles" = some (some (.ref f__law_circles)))
    (l__law_circles : K.lookup f__law_circles = some ⟨oc__law_circles, od__law_circles, .func (PySem.W.fnOf "_law_circles" "_law_circles" (defArgs s__law_circles) (defBody s__law_circles) (defScope s__law_circles) .none kV__law_circles dc__law_circles pm__law_circles an__law_circles cd__law_circles ct__law_circles), sl__law_circles⟩)
    (c__law_circles : PySem.W.codeIn K cd__law_circles "_law_circles" = true)
    (k__law_circles : PySem.W.keepIn K (.ref f__law_circles) = true)
    (a__law_drawings : PySem.W.nsIn K mainGlobals "_law_drawings" = some (some (.ref f__law_drawings)))
    (l__law_drawings : K.lookup f__law_drawings = some ⟨oc__law_drawings, od__law_drawings, .func (PySem.W.fnOf "_law_drawings" "_law_drawings" (defArgs s__law_drawings) (defBody s__law_drawings) (defScope s__law_drawings) .none kV__law_drawings dc__law_drawings pm__law_drawings an__law_drawings cd__law_drawings ct__law_drawings), sl__law_drawings⟩)
    (c__law_drawings : PySem.W.codeIn K cd__law_drawings "_law_drawings" = true)
    (k__law_drawings : PySem.W.keepIn K (.ref f__law_drawings) = true)
    (a_law : PySem.W.nsIn K mainGlobals "law" = some (some (.ref f_law)))
    (l_law : K.lookup f_law = some ⟨oc_law, od_law, .func (PySem.W.fnOf "law" "law" (defArgs s_law) (defBody s_law) (defScope s_law) .none kV_law dc_law pm_law an_law cd_law ct_law), sl_law⟩)
    (c_law : PySem.W.codeIn K cd_law "law" = true)
    (k_law : PySem.W.keepIn K (.ref f_law) = true)
    (pg_Drawing : PySem.W.plainGet K C_Drawing Str.empty = true)
    (hd_Drawing : PySem.W.hasDictIn K C_Drawing = true)
    (po_Drawing : PySem.W.plainOver K C_Drawing = true)
    (sa_Drawing : PySem.W.findIn K (.ref C_Drawing) "__setattr__" = some (some (.builtin "object.__setattr__")))
    (mkk_Drawing : PySem.W.makesIn K C_Drawing = true)
    (kc_Drawing : PySem.W.keepIn K (.ref C_Drawing) = true)
    (ha_Drawing : PySem.W.findIn K (.ref C_Drawing) "__class__" = some (some (.builtin "object.__class__")))
    (hn_Drawing : PySem.W.specialIn K (.builtin "object.__class__") "__get__" = some (some (.builtin "getset_descriptor.__get__")))
    (ht_Drawing : PySem.W.takesIn K (.builtin "object.__class__") = some true)
    (hm_Drawing : PySem.W.mroIn K C_Drawing (.type "object") = some true)
    (na_Drawing_pairs : PySem.W.findIn K (.ref C_Drawing) "pairs" = some none)
    (pg_Circle : PySem.W.plainGet K C_Circle Str.empty = true)
    (hd_Circle : PySem.W.hasDictIn K C_Circle = true)
    (po_Circle : PySem.W.plainOver K C_Circle = true)
    (sa_Circle : PySem.W.findIn K (.ref C_Circle) "__setattr__" = some (some (.builtin "object.__setattr__")))
    (mkk_Circle : PySem.W.makesIn K C_Circle = true)
    (kc_Circle : PySem.W.keepIn K (.ref C_Circle) = true)
    (ha_Circle : PySem.W.findIn K (.ref C_Circle) "__class__" = some (some (.builtin "object.__class__")))
    (hn_Circle : PySem.W.specialIn K (.builtin "object.__class__") "__get__" = some (some (.builtin "getset_descriptor.__get__")))
    (ht_Circle : PySem.W.takesIn K (.builtin "object.__class__") = some true)
    (hm_Circle : PySem.W.mroIn K C_Circle (.type "object") = some true)
    (na_Circle_members : PySem.W.findIn K (.ref C_Circle) "members" = some none)
    (na_Circle_bars : PySem.W.findIn K (.ref C_Circle) "bars" = some none)
    (na_Circle_past : PySem.W.findIn K (.ref C_Circle) "past" = some none)
    (na_Circle_gap : PySem.W.findIn K (.ref C_Circle) "gap" = some none)
    (na_Circle_houses : PySem.W.findIn K (.ref C_Circle) "houses" = some none)
    (na_Circle_names_told : PySem.W.findIn K (.ref C_Circle) "names_told" = some none)
    (na_Circle_barred : PySem.W.findIn K (.ref C_Circle) "barred" = some none)
    (na_Circle_gone_by : PySem.W.findIn K (.ref C_Circle) "gone_by" = some none)
    (pg_CircleReader : PySem.W.plainGet K C_CircleReader Str.empty = true)
    (hd_CircleReader : PySem.W.hasDictIn K C_CircleReader = true)
    (po_CircleReader : PySem.W.plainOver K C_CircleReader = true)
    (sa_CircleReader : PySem.W.findIn K (.ref C_CircleReader) "__setattr__" = some (some (.builtin "object.__setattr__")))
    (mkk_CircleReader : PySem.W.makesIn K C_CircleReader = true)
    (kc_CircleReader : PySem.W.keepIn K (.ref C_CircleReader) = true)
    (ha_CircleReader : PySem.W.findIn K (.ref C_CircleReader) "__class__" = some (some (.builtin "object.__class__")))
    (hn_CircleReader : PySem.W.specialIn K (.builtin "object.__class__") "__get__" = some (some (.builtin "getset_descriptor.__get__")))
    (ht_CircleReader : PySem.W.takesIn K (.builtin "object.__class__") = some true)
    (hm_CircleReader : PySem.W.mroIn K C_CircleReader (.type "object") = some true)
    (na_CircleReader_last_kind : PySem.W.findIn K (.ref C_CircleReader) "last_kind" = some none)
    (na_CircleReader_gap_text : PySem.W.findIn K (.ref C_CircleReader) "gap_text" = some none)
    (na_CircleReader_members_told : PySem.W.findIn K (.ref C_CircleReader) "members_told" = some none)
    (na_CircleReader_bars_told : PySem.W.findIn K (.ref C_CircleReader) "bars_told" = some none)
    (na_CircleReader_years_told : PySem.W.findIn K (.ref C_CircleReader) "years_told" = some none)
    (g_LETTERS : PySem.W.nsIn K mainGlobals "LETTERS" = some (some (.str "abcdefghijklmnopqrstuvwxyz" tk_LETTERS)))
    (g_MOST_LETTERS : PySem.W.nsIn K mainGlobals "MOST_LETTERS" = some (some (.int 12 tk_MOST_LETTERS)))
    (g_FIGURE_SIGNS : PySem.W.nsIn K mainGlobals "FIGURE_SIGNS" = some (some (.str "0123456789" tk_FIGURE_SIGNS)))
    (g_MOST_FIGURES : PySem.W.nsIn K mainGlobals "MOST_FIGURES" = some (some (.int 30 tk_MOST_FIGURES)))
    (n_len : PySem.W.nsIn K mainGlobals "len" = some none)
    (n_abs : PySem.W.nsIn K mainGlobals "abs" = some none)
    (n_all : PySem.W.nsIn K mainGlobals "all" = some none)
    (n_any : PySem.W.nsIn K mainGlobals "any" = some none)
    (n_range : PySem.W.nsIn K mainGlobals "range" = some none)
    (n_isinstance : PySem.W.nsIn K mainGlobals "isinstance" = some none)
    (n_list : PySem.W.nsIn K mainGlobals "list" = some none)
    (n_tuple : PySem.W.nsIn K mainGlobals "tuple" = some none)
    (n_str : PySem.W.nsIn K mainGlobals "str" = some none)
    (n_max : PySem.W.nsIn K mainGlobals "max" = some none)
    (n_min : PySem.W.nsIn K mainGlobals "min" = some none)
    (n_dict : PySem.W.nsIn K mainGlobals "dict" = some none)
    (n_int : PySem.W.nsIn K mainGlobals "int" = some none)
    (n_bool : PySem.W.nsIn K mainGlobals "bool" = some none)
    (n_enumerate : PySem.W.nsIn K mainGlobals "enumerate" = some none)
    (n_zip : PySem.W.nsIn K mainGlobals "zip" = some none)
    (n_set : PySem.W.nsIn K mainGlobals "set" = some none)
    (n_sorted : PySem.W.nsIn K mainGlobals "sorted" = some none) : T60f K mg := {
  C_Drawing := C_Drawing
  C_Circle := C_Circle
  C_CircleReader := C_CircleReader
  f_is_name := f_is_name
  fd_is_name := _
  F_is_name := fun_mk (st := s_is_name) l_is_name c_is_name k_is_name
  b_is_name := (fun_mk (st := s_is_name) l_is_name c_is_name k_is_name).binds (ps := ["thing"]) fun _ _ _ _ _ _ us hl => match us, hl with | [_], _ => rfl
  mg_is_name := PySem.W.mg_of X G a_is_name
  f_is_pair := f_is_pair
  fd_is_pair := _
  F_is_pair := fun_mk (st := s_is_pair) l_is_pair c_is_pair k_is_pair
  b_is_pair := (fun_mk (st := s_is_pair) l_is_pair c_is_pair k_is_pair).binds (ps := ["thing"]) fun _ _ _ _ _ _ us hl => match us, hl with | [_], _ => rfl
  mg_is_pair := PySem.W.mg_of X G a_is_pair
  f_does_rise := f_does_rise
  fd_does_rise := _
  F_does_rise := fun_mk (st := s_does_rise) l_does_rise c_does_rise k_does_rise
  b_does_rise := (fun_mk (st := s_does_rise) l_does_rise c_does_rise k_does_rise).binds (ps := ["things"]) fun _ _ _ _ _ _ us hl => match us, hl with | [_], _ => rfl
  mg_does_rise := PySem.W.mg_of X G a_does_rise
  f_are_pairs := f_are_pairs
  fd_are_pairs := _
  F_are_pairs := fun_mk (st := s_are_pairs) l_are_pairs c_are_pairs k_are_pairs
  b_are_pairs := (fun_mk (st := s_are_pairs) l_are_pairs c_are_pairs k_are_pairs).binds (ps := ["thing"]) fun _ _ _ _ _ _ us hl => match us, hl with | [_], _ => rfl
  mg_are_pairs := PySem.W.mg_of X G a_are_pairs
  f_Circle___init__ := f_Circle___init__
  fd_Circle___init__ := _
  F_Circle___init__ := ⟨⟨oc_Circle___init__, od_Circle___init__, dV_Circle___init__, kV_Circle___init__, dc_Circle___init__, pm_Circle___init__, an_Circle___init__, cd_Circle___init__, ct_Circle___init__, sl_Circle___init__, rfl, l_Circle___init__, c_Circle___init__, dv_Circle___init__, .inl rfl⟩, k_Circle___init__⟩
  a_Circle___init__ := a_Circle___init__
  i_Circle___init__ := i_Circle___init__
  f_are_drawn := f_are_drawn
  fd_are_drawn := _
  F_are_drawn := fun_mk (st := s_are_drawn) l_are_drawn c_are_drawn k_are_drawn
  b_are_drawn := (fun_mk (st := s_are_drawn) l_are_drawn c_are_drawn k_are_drawn).binds (ps := ["thing"]) fun _ _ _ _ _ _ us hl => match us, hl with | [_], _ => rfl
  mg_are_drawn := PySem.W.mg_of X G a_are_drawn
  f_Drawing___init__ := f_Drawing___init__
  fd_Drawing___init__ := _
  F_Drawing___init__ := fun_mk (st := s_Drawing___init__) l_Drawing___init__ c_Drawing___init__ k_Drawing___init__
  b_Drawing___init__ := (fun_mk (st := s_Drawing___init__) l_Drawing___init__ c_Drawing___init__ k_Drawing___init__).binds (ps := ["self", "pairs"]) fun _ _ _ _ _ _ us hl => match us, hl with | [_, _], _ => rfl
  a_Drawing___init__ := a_Drawing___init__
  i_Drawing___init__ := i_Drawing___init__
  f_is_number_text := f_is_number_text
  fd_is_number_text := _
  F_is_number_text := fun_mk (st := s_is_number_text) l_is_number_text c_is_number_text k_is_number_text
  b_is_number_text := (fun_mk (st := s_is_number_text) l_is_number_text c_is_number_text k_is_number_text).binds (ps := ["text"]) fun _ _ _ _ _ _ us hl => match us, hl with | [_], _ => rfl
  mg_is_number_text := PySem.W.mg_of X G a_is_number_text
  f_comes_behind := f_comes_behind
  fd_comes_behind := _
  F_comes_behind := fun_mk (st := s_comes_behind) l_comes_behind c_comes_behind k_comes_behind
  b_comes_behind := (fun_mk (st := s_comes_behind) l_comes_behind c_comes_behind k_comes_behind).binds (ps := ["things", "thing"]) fun _ _ _ _ _ _ us hl => match us, hl with | [_, _], _ => rfl
  mg_comes_behind := PySem.W.mg_of X G a_comes_behind
  f_member_taken := f_member_taken
  fd_member_taken := _
  F_member_taken := fun_mk (st := s_member_taken) l_member_taken c_member_taken k_member_taken
  b_member_taken := (fun_mk (st := s_member_taken) l_member_taken c_member_taken k_member_taken).binds (ps := ["reader", "words"]) fun _ _ _ _ _ _ us hl => match us, hl with | [_, _], _ => rfl
  mg_member_taken := PySem.W.mg_of X G a_member_taken
  f_bar_taken := f_bar_taken
  fd_bar_taken := _
  F_bar_taken := fun_mk (st := s_bar_taken) l_bar_taken c_bar_taken k_bar_taken
  b_bar_taken := (fun_mk (st := s_bar_taken) l_bar_taken c_bar_taken k_bar_taken).binds (ps := ["reader", "words"]) fun _ _ _ _ _ _ us hl => match us, hl with | [_, _], _ => rfl
  mg_bar_taken := PySem.W.mg_of X G a_bar_taken
  f_year_taken := f_year_taken
  fd_year_taken := _
  F_year_taken := fun_mk (st := s_year_taken) l_year_taken c_year_taken k_year_taken
  b_year_taken := (fun_mk (st := s_year_taken) l_year_taken c_year_taken k_year_taken).binds (ps := ["reader", "words"]) fun _ _ _ _ _ _ us hl => match us, hl with | [_, _], _ => rfl
  mg_year_taken := PySem.W.mg_of X G a_year_taken
  f_pair_taken := f_pair_taken
  fd_pair_taken := _
  F_pair_taken := fun_mk (st := s_pair_taken) l_pair_taken c_pair_taken k_pair_taken
  b_pair_taken := (fun_mk (st := s_pair_taken) l_pair_taken c_pair_taken k_pair_taken).binds (ps := ["reader", "words"]) fun _ _ _ _ _ _ us hl => match us, hl with | [_, _], _ => rfl
  mg_pair_taken := PySem.W.mg_of X G a_pair_taken
  f_CircleReader___init__ := f_CircleReader___init__
  fd_CircleReader___init__ := _
  F_CircleReader___init__ := fun_mk (st := s_CircleReader___init__) l_CircleReader___init__ c_CircleReader___init__ k_CircleReader___init__
  b_CircleReader___init__ := (fun_mk (st := s_CircleReader___init__) l_CircleReader___init__ c_CircleReader___init__ k_CircleReader___init__).binds (ps := ["self"]) fun _ _ _ _ _ _ us hl => match us, hl with | [_], _ => rfl
  a_CircleReader___init__ := a_CircleReader___init__
  i_CircleReader___init__ := i_CircleReader___init__
  f_CircleReader_take_head := f_CircleReader_take_head
  fd_CircleReader_take_head := _
  F_CircleReader_take_head := fun_mk (st := s_CircleReader_take_head) l_CircleReader_take_head c_CircleReader_take_head k_CircleReader_take_head
  b_CircleReader_take_head := (fun_mk (st := s_CircleReader_take_head) l_CircleReader_take_head c_CircleReader_take_head k_CircleReader_take_head).binds (ps := ["self", "row"]) fun _ _ _ _ _ _ us hl => match us, hl with | [_, _], _ => rfl
  a_CircleReader_take_head := a_CircleReader_take_head
  i_CircleReader_take_head := i_CircleReader_take_head
  mt_CircleReader_take_head := ⟨a_CircleReader_take_head, i_CircleReader_take_head, k_CircleReader_take_head⟩
  f_CircleReader_take_row := f_CircleReader_take_row
  fd_CircleReader_take_row := _
  F_CircleReader_take_row := fun_mk (st := s_CircleReader_take_row) l_CircleReader_take_row c_CircleReader_take_row k_CircleReader_take_row
  b_CircleReader_take_row := (fun_mk (st := s_CircleReader_take_row) l_CircleReader_take_row c_CircleReader_take_row k_CircleReader_take_row).binds (ps := ["self", "row"]) fun _ _ _ _ _ _ us hl => match us, hl with | [_, _], _ => rfl
  a_CircleReader_take_row := a_CircleReader_take_row
  i_CircleReader_take_row := i_CircleReader_take_row
  mt_CircleReader_take_row := ⟨a_CircleReader_take_row, i_CircleReader_take_row, k_CircleReader_take_row⟩
  f_CircleReader_circle_told := f_CircleReader_circle_told
  fd_CircleReader_circle_told := _
  F_CircleReader_circle_told := fun_mk (st := s_CircleReader_circle_told) l_CircleReader_circle_told c_CircleReader_circle_told k_CircleReader_circle_told
  b_CircleReader_circle_told := (fun_mk (st := s_CircleReader_circle_told) l_CircleReader_circle_told c_CircleReader_circle_told k_CircleReader_circle_told).binds (ps := ["self"]) fun _ _ _ _ _ _ us hl => match us, hl with | [_], _ => rfl
  a_CircleReader_circle_told := a_CircleReader_circle_told
  i_CircleReader_circle_told := i_CircleReader_circle_told
  mt_CircleReader_circle_told := ⟨a_CircleReader_circle_told, i_CircleReader_circle_told, k_CircleReader_circle_told⟩
  f_read_circle := f_read_circle
  fd_read_circle := _
  F_read_circle := fun_mk (st := s_read_circle) l_read_circle c_read_circle k_read_circle
  b_read_circle := (fun_mk (st := s_read_circle) l_read_circle c_read_circle k_read_circle).binds (ps := ["text"]) fun _ _ _ _ _ _ us hl => match us, hl with | [_], _ => rfl
  mg_read_circle := PySem.W.mg_of X G a_read_circle
  f_still_to_give := f_still_to_give
  fd_still_to_give := _
  F_still_to_give := fun_mk (st := s_still_to_give) l_still_to_give c_still_to_give k_still_to_give
  b_still_to_give := (fun_mk (st := s_still_to_give) l_still_to_give c_still_to_give k_still_to_give).binds (ps := ["pairs"]) fun _ _ _ _ _ _ us hl => match us, hl with | [_], _ => rfl
  mg_still_to_give := PySem.W.mg_of X G a_still_to_give
  f_may_go_on := f_may_go_on
  fd_may_go_on := _
  F_may_go_on := fun_mk (st := s_may_go_on) l_may_go_on c_may_go_on k_may_go_on
  b_may_go_on := (fun_mk (st := s_may_go_on) l_may_go_on c_may_go_on k_may_go_on).binds (ps := ["pairs", "words"]) fun _ _ _ _ _ _ us hl => match us, hl with | [_, _], _ => rfl
  mg_may_go_on := PySem.W.mg_of X G a_may_go_on
  f_read_drawing := f_read_drawing
  fd_read_drawing := _
  F_read_drawing := fun_mk (st := s_read_drawing) l_read_drawing c_read_drawing k_read_drawing
  b_read_drawing := (fun_mk (st := s_read_drawing) l_read_drawing c_read_drawing k_read_drawing).binds (ps := ["text"]) fun _ _ _ _ _ _ us hl => match us, hl with | [_], _ => rfl
  mg_read_drawing := PySem.W.mg_of X G a_read_drawing
  f__law_pot := f__law_pot
  fd__law_pot := _
  F__law_pot := fun_mk (st := s__law_pot) l__law_pot c__law_pot k__law_pot
  b__law_pot := (fun_mk (st := s__law_pot) l__law_pot c__law_pot k__law_pot).binds (ps := ["_law_script", "_law_k"]) fun _ _ _ _ _ _ us hl => match us, hl with | [_, _], _ => rfl
  mg__law_pot := PySem.W.mg_of X G a__law_pot
  f__law_pick := f__law_pick
  fd__law_pick := _
  F__law_pick := fun_mk (st := s__law_pick) l__law_pick c__law_pick k__law_pick
  b__law_pick := (fun_mk (st := s__law_pick) l__law_pick c__law_pick k__law_pick).binds (ps := ["_law_pot_here", "_law_most"]) fun _ _ _ _ _ _ us hl => match us, hl with | [_, _], _ => rfl
  mg__law_pick := PySem.W.mg_of X G a__law_pick
  f__law_of := f__law_of
  fd__law_of := _
  F__law_of := fun_mk (st := s__law_of) l__law_of c__law_of k__law_of
  b__law_of := (fun_mk (st := s__law_of) l__law_of c__law_of k__law_of).binds (ps := ["_law_pot_here", "_law_some"]) fun _ _ _ _ _ _ us hl => match us, hl with | [_, _], _ => rfl
  mg__law_of := PySem.W.mg_of X G a__law_of
  f__law_row_of := f__law_row_of
  fd__law_row_of := _
  F__law_row_of := fun_mk (st := s__law_row_of) l__law_row_of c__law_row_of k__law_row_of
  b__law_row_of := (fun_mk (st := s__law_row_of) l__law_row_of c__law_row_of k__law_row_of).binds (ps := ["_law_thing", "_law_way"]) fun _ _ _ _ _ _ us hl => match us, hl with | [_, _], _ => rfl
  mg__law_row_of := PySem.W.mg_of X G a__law_row_of
  f__law_nested := f__law_nested
  fd__law_nested := _
  F__law_nested := fun_mk (st := s__law_nested) l__law_nested c__law_nested k__law_nested
  b__law_nested := (fun_mk (st := s__law_nested) l__law_nested c__law_nested k__law_nested).binds (ps := ["_law_pot_here", "_law_thing"]) fun _ _ _ _ _ _ us hl => match us, hl with | [_, _], _ => rfl
  mg__law_nested := PySem.W.mg_of X G a__law_nested
  f__law_circles := f__law_circles
  fd__law_circles := _
  F__law_circles := fun_mk (st := s__law_circles) l__law_circles c__law_circles k__law_circles
  b__law_circles := (fun_mk (st := s__law_circles) l__law_circles c__law_circles k__law_circles).binds (ps := ["_law_word"]) fun _ _ _ _ _ _ us hl => match us, hl with | [_], _ => rfl
  mg__law_circles := PySem.W.mg_of X G a__law_circles
  f__law_drawings := f__law_drawings
  fd__law_drawings := _
  F__law_drawings := fun_mk (st := s__law_drawings) l__law_drawings c__law_drawings k__law_drawings
  b__law_drawings := (fun_mk (st := s__law_drawings) l__law_drawings c__law_drawings k__law_drawings).binds (ps := ["_law_word"]) fun _ _ _ _ _ _ us hl => match us, hl with | [_], _ => rfl
  mg__law_drawings := PySem.W.mg_of X G a__law_drawings
  f_law := f_law
  fd_law := _
  F_law := fun_mk (st := s_law) l_law c_law k_law
  b_law := (fun_mk (st := s_law) l_law c_law k_law).binds (ps := ["_law_script"]) fun _ _ _ _ _ _ us hl => match us, hl with | [_], _ => rfl
  mg_law := PySem.W.mg_of X G a_law
  mg_Drawing := PySem.W.mg_of X G aC_Drawing
  cl_Drawing := ⟨pg_Drawing, hd_Drawing, po_Drawing, sa_Drawing⟩
  mk_Drawing := ⟨mkk_Drawing, a_Drawing___init__, i_Drawing___init__, kc_Drawing⟩
  ok_Drawing := ⟨⟨pg_Drawing, hd_Drawing, po_Drawing, sa_Drawing⟩, ha_Drawing, hn_Drawing, ht_Drawing, hm_Drawing⟩
  na_Drawing_pairs := na_Drawing_pairs
  mg_Circle := PySem.W.mg_of X G aC_Circle
  cl_Circle := ⟨pg_Circle, hd_Circle, po_Circle, sa_Circle⟩
  mk_Circle := ⟨mkk_Circle, a_Circle___init__, i_Circle___init__, kc_Circle⟩
  ok_Circle := ⟨⟨pg_Circle, hd_Circle, po_Circle, sa_Circle⟩, ha_Circle, hn_Circle, ht_Circle, hm_Circle⟩
  na_Circle_members := na_Circle_members
  na_Circle_bars := na_Circle_bars
  na_Circle_past := na_Circle_past
  na_Circle_gap := na_Circle_gap
  na_Circle_houses := na_Circle_houses
  na_Circle_names_told := na_Circle_names_told
  na_Circle_barred := na_Circle_barred
  na_Circle_gone_by := na_Circle_gone_by
  mg_CircleReader := PySem.W.mg_of X G aC_CircleReader
  cl_CircleReader := ⟨pg_CircleReader, hd_CircleReader, po_CircleReader, sa_CircleReader⟩
  mk_CircleReader := ⟨mkk_CircleReader, a_CircleReader___init__, i_CircleReader___init__, kc_CircleReader⟩
  ok_CircleReader := ⟨⟨pg_CircleReader, hd_CircleReader, po_CircleReader, sa_CircleReader⟩, ha_CircleReader, hn_CircleReader, ht_CircleReader, hm_CircleReader⟩
  na_CircleReader_last_kind := na_CircleReader_last_kind
  na_CircleReader_gap_text := na_CircleReader_gap_text
  na_CircleReader_members_told := na_CircleReader_members_told
  na_CircleReader_bars_told := na_CircleReader_bars_told
  na_CircleReader_years_told := na_CircleReader_years_told
  tk_LETTERS := tk_LETTERS
  mg_LETTERS := PySem.W.mg_of X G g_LETTERS
  tk_MOST_LETTERS := tk_MOST_LETTERS
  mg_MOST_LETTERS := PySem.W.mg_of X G g_MOST_LETTERS
  tk_FIGURE_SIGNS := tk_FIGURE_SIGNS
  mg_FIGURE_SIGNS := PySem.W.mg_of X G g_FIGURE_SIGNS
  tk_MOST_FIGURES := tk_MOST_FIGURES
  mg_MOST_FIGURES := PySem.W.mg_of X G g_MOST_FIGURES
  n_len := PySem.W.mg_none_of X G n_len
  n_abs := PySem.W.mg_none_of X G n_abs
  n_all := PySem.W.mg_none_of X G n_all
  n_any := PySem.W.mg_none_of X G n_any
  n_range := PySem.W.mg_none_of X G n_range
  n_isinstance := PySem.W.mg_none_of X G n_isinstance
  n_list := PySem.W.mg_none_of X G n_list
  n_tuple := PySem.W.mg_none_of X G n_tuple
  n_str := PySem.W.mg_none_of X G n_str
  n_max := PySem.W.mg_none_of X G n_max
  n_min := PySem.W.mg_none_of X G n_min
  n_dict := PySem.W.mg_none_of X G n_dict
  n_int := PySem.W.mg_none_of X G n_int
  n_bool := PySem.W.mg_none_of X G n_bool
  n_enumerate := PySem.W.mg_none_of X G n_enumerate
  n_zip := PySem.W.mg_none_of X G n_zip
  n_set := PySem.W.mg_none_of X G n_set
  n_sorted := PySem.W.mg_none_of X G n_sorted }
structure T60x (K : PySem.W.Frag) (mg : Str → Option Value) where
  C_NoText : Addr
  C_LotError : Addr
  C_NoDrawing : Addr
  C_NoMember : Addr
  C_NoNumber : Addr
  C_NoRow : Addr
  C_NoYear : Addr
  mg_NoDrawing : mg "NoDrawing" = some (.ref C_NoDrawing)
  mg_NoMember : mg "NoMember" = some (.ref C_NoMember)
  mg_NoNumber : mg "NoNumber" = some (.ref C_NoNumber)
  mg_NoRow : mg "NoRow" = some (.ref C_NoRow)
  mg_NoYear : mg "NoYear" = some (.ref C_NoYear)
  f_NoText___init__ : Addr
  fd_NoText___init__ : FuncData
  F_NoText___init__ : Fun K "__init__" "NoText.__init__" s_NoText___init__ f_NoText___init__ fd_NoText___init__
  b_NoText___init__ : Binds K fd_NoText___init__ ["self", "row"] []
  mg_NoText : mg "NoText" = some (.ref C_NoText)
  kc_NoText : PySem.W.keepIn K (.ref C_NoText) = true
  xf_NoText : XfC K C_NoText
  ec_NoText : ExcC K C_NoText
  ex_NoText : PySem.W.subIn K (.ref C_NoText) (.type "BaseException") = some true
  ty_NoText : PySem.W.typeIn K (.ref C_NoText) = some (.type "type")
  ox_NoText : OexC K C_NoText
  no_NoText_row : PySem.W.findIn K (.ref C_NoText) "row" = some none
  mkE_NoText : MkE K C_NoText f_NoText___init__ ["row"]
  mg_LotError : mg "LotError" = some (.ref C_LotError)
  kc_LotError : PySem.W.keepIn K (.ref C_LotError) = true
  xf_LotError : XfC K C_LotError
  ec_LotError : ExcC K C_LotError
  ex_LotError : PySem.W.subIn K (.ref C_LotError) (.type "BaseException") = some true
  ty_LotError : PySem.W.typeIn K (.ref C_LotError) = some (.type "type")
  li : LInit K C_LotError (.type "type")
  ko_NoText_NoText : PySem.W.kitOne K (.ref C_NoText) (.ref C_NoText) = some true
  ko_NoText_ValueError : PySem.W.kitOne K (.ref C_NoText) (.type "ValueError") = some true
  ka_a : PySem.W.kitAny K (.ref C_NoText) [.ref C_NoDrawing, .ref C_NoMember, .ref C_NoNumber, .ref C_NoRow, .ref C_NoYear] = some false
  xm_NoText : PySem.W.exmOne K (.ref C_NoText) (.ref C_LotError) = some true
  n_ValueError : mg "ValueError" = none
def T60x_mk {K : PySem.W.Frag} {h : Heap} {mg : Str → Option Value} (X : K.In h) (G : h.Ns mainGlobals mg)
    {C_NoText : Addr}
    {C_LotError : Addr}
    {C_NoDrawing : Addr}
    {C_NoMember : Addr}
    {C_NoNumber : Addr}
    {C_NoRow : Addr}
    {C_NoYear : Addr}
    {f_NoText___init__ : Addr} {od_NoText___init__ an_NoText___init__ : Option Addr} {sl_NoText___init__ : Array (Option Value)} {oc_NoText___init__ kV_NoText___init__ dc_NoText___init__ pm_NoText___init__ cd_NoText___init__ ct_NoText___init__ : Value}
    {nm_NoText q_NoText : Str} {N_NoText : Addr} {bs_NoText : List Value} {sn_NoText : List Str} {sub_NoText : List Value} {ab_NoText : Bool} {col_NoText : Option Bool} {dd_NoText : Option Addr} {m0_NoText m1_NoText m2_NoText m3_NoText m5_NoText : Option Value}
    (aC_NoText : PySem.W.nsIn K mainGlobals "NoText" = some (some (.ref C_NoText)))
    (aC_LotError : PySem.W.nsIn K mainGlobals "LotError" = some (some (.ref C_LotError)))
    (aC_NoDrawing : PySem.W.nsIn K mainGlobals "NoDrawing" = some (some (.ref C_NoDrawing)))
    (aC_NoMember : PySem.W.nsIn K mainGlobals "NoMember" = some (some (.ref C_NoMember)))
    (aC_NoNumber : PySem.W.nsIn K mainGlobals "NoNumber" = some (some (.ref C_NoNumber)))
    (aC_NoRow : PySem.W.nsIn K mainGlobals "NoRow" = some (some (.ref C_NoRow)))
    (aC_NoYear : PySem.W.nsIn K mainGlobals "NoYear" = some (some (.ref C_NoYear)))
    (hn_ : PySem.W.specialIn K (.builtin "object.__class__") "__get__" = some (some (.builtin "getset_descriptor.__get__")))
    (ht_ : PySem.W.takesIn K (.builtin "object.__class__") = some true)
    (a_NoText___init__ : PySem.W.findIn K (.ref C_NoText) "__init__" = some (some (.ref f_NoText___init__)))
    (l_NoText___init__ : K.lookup f_NoText___init__ = some ⟨oc_NoText___init__, od_NoText___init__, .func (PySem.W.fnOf "__init__" "NoText.__init__" (defArgs s_NoText___init__) (defBody s_NoText___init__) (defScope s_NoText___init__) .none kV_NoText___init__ dc_NoText___init__ pm_NoText___init__ an_NoText___init__ cd_NoText___init__ ct_NoText___init__), sl_NoText___init__⟩)
    (c_NoText___init__ : PySem.W.codeIn K cd_NoText___init__ "NoText.__init__" = true)
    (k_NoText___init__ : PySem.W.keepIn K (.ref f_NoText___init__) = true)
    (ga_NoText : PySem.W.findIn K (.ref C_NoText) "__getattribute__" = some (some (.builtin "BaseException.__getattribute__")))
    (gg_NoText : PySem.W.findIn K (.ref C_NoText) "__getattr__" = some none)
    (ex_NoText : PySem.W.subIn K (.ref C_NoText) (.type "BaseException") = some true)
    (hd_NoText : PySem.W.hasDictIn K C_NoText = true)
    (ty_NoText : PySem.W.typeIn K (.ref C_NoText) = some (.type "type"))
    (kc_NoText : PySem.W.keepIn K (.ref C_NoText) = true)
    (ha_NoText : PySem.W.findIn K (.ref C_NoText) "__class__" = some (some (.builtin "object.__class__")))
    (hm_NoText : PySem.W.mroIn K C_NoText (.type "object") = some true)
    (xL_NoText : K.lookup C_NoText = some (excClassObj nm_NoText q_NoText C_NoText N_NoText bs_NoText [.ref C_LotError, .type "ValueError", .type "Exception", .type "BaseException", .type "object"] true sn_NoText sub_NoText ab_NoText col_NoText dd_NoText m0_NoText m1_NoText m2_NoText m3_NoText m5_NoText "ValueError.__new__"))
    (sa_NoText : PySem.W.findIn K (.ref C_NoText) "__setattr__" = some (some (.builtin "object.__setattr__")))
    (t_NoText : PySem.W.typeIn K (.ref f_NoText___init__) = some (.type "function"))
    (no_NoText_row : PySem.W.findIn K (.ref C_NoText) "row" = some none)
    (ga_LotError : PySem.W.findIn K (.ref C_LotError) "__getattribute__" = some (some (.builtin "BaseException.__getattribute__")))
    (gg_LotError : PySem.W.findIn K (.ref C_LotError) "__getattr__" = some none)
    (ex_LotError : PySem.W.subIn K (.ref C_LotError) (.type "BaseException") = some true)
    (hd_LotError : PySem.W.hasDictIn K C_LotError = true)
    (ty_LotError : PySem.W.typeIn K (.ref C_LotError) = some (.type "type"))
    (kc_LotError : PySem.W.keepIn K (.ref C_LotError) = true)
    (ha_LotError : PySem.W.findIn K (.ref C_LotError) "__class__" = some (some (.builtin "object.__class__")))
    (hm_LotError : PySem.W.mroIn K C_LotError (.type "object") = some true)
    (li1 : PySem.W.readsIn K C_LotError (.type "type") = true)
    (li2 : PySem.W.specialIn K (.ref C_LotError) "__getattribute__" = some (some (.builtin "type.__getattribute__")))
    (li3 : PySem.W.findCls K (.ref C_LotError) (.type "type") "__init__" = some (.val (.builtin "ValueError.__init__")))
    (ko_NoText_NoText : PySem.W.kitOne K (.ref C_NoText) (.ref C_NoText) = some true)
    (ko_NoText_ValueError : PySem.W.kitOne K (.ref C_NoText) (.type "ValueError") = some true)
    (ka_a : PySem.W.kitAny K (.ref C_NoText) [.ref C_NoDrawing, .ref C_NoMember, .ref C_NoNumber, .ref C_NoRow, .ref C_NoYear] = some false)
    (su_NoText : PySem.W.subIn K (.ref C_NoText) (.ref C_LotError) = some true)
    (n_ValueError : PySem.W.nsIn K mainGlobals "ValueError" = some none) : T60x K mg := {
  C_NoText := C_NoText
  C_LotError := C_LotError
  C_NoDrawing := C_NoDrawing
  mg_NoDrawing := PySem.W.mg_of X G aC_NoDrawing
  C_NoMember := C_NoMember
  mg_NoMember := PySem.W.mg_of X G aC_NoMember
  C_NoNumber := C_NoNumber
  mg_NoNumber := PySem.W.mg_of X G aC_NoNumber
  C_NoRow := C_NoRow
  mg_NoRow := PySem.W.mg_of X G aC_NoRow
  C_NoYear := C_NoYear
  mg_NoYear := PySem.W.mg_of X G aC_NoYear
  f_NoText___init__ := f_NoText___init__
  fd_NoText___init__ := _
  F_NoText___init__ := fun_mk (st := s_NoText___init__) l_NoText___init__ c_NoText___init__ k_NoText___init__
  b_NoText___init__ := (fun_mk (st := s_NoText___init__) l_NoText___init__ c_NoText___init__ k_NoText___init__).binds (ps := ["self", "row"]) fun _ _ _ _ _ _ us hl => match us, hl with | [_, _], _ => rfl
  mg_NoText := PySem.W.mg_of X G aC_NoText
  kc_NoText := kc_NoText
  xf_NoText := ⟨ga_NoText, gg_NoText, ex_NoText, hd_NoText⟩
  ec_NoText := ⟨ga_NoText, gg_NoText, ex_NoText, hd_NoText, ha_NoText, hn_, ht_, hm_NoText⟩
  ex_NoText := ex_NoText
  ty_NoText := ty_NoText
  ox_NoText := ⟨⟨nm_NoText, q_NoText, N_NoText, bs_NoText, _, sn_NoText, sub_NoText, ab_NoText, col_NoText, dd_NoText, m0_NoText, m1_NoText, m2_NoText, m3_NoText, m5_NoText, xL_NoText, rfl⟩, sa_NoText, ex_NoText, ty_NoText, kc_NoText⟩
  no_NoText_row := no_NoText_row
  mkE_NoText := ⟨⟨⟨nm_NoText, q_NoText, N_NoText, bs_NoText, _, sn_NoText, sub_NoText, ab_NoText, col_NoText, dd_NoText, m0_NoText, m1_NoText, m2_NoText, m3_NoText, m5_NoText, xL_NoText, rfl⟩, sa_NoText, ex_NoText, ty_NoText, kc_NoText⟩, a_NoText___init__, t_NoText, (by intro g h; simp only [List.mem_cons, List.not_mem_nil, or_false] at h; first | (subst h; first | exact no_NoText_row) | (rcases h with h | h <;> subst h <;> first | exact no_NoText_row))⟩
  mg_LotError := PySem.W.mg_of X G aC_LotError
  kc_LotError := kc_LotError
  xf_LotError := ⟨ga_LotError, gg_LotError, ex_LotError, hd_LotError⟩
  ec_LotError := ⟨ga_LotError, gg_LotError, ex_LotError, hd_LotError, ha_LotError, hn_, ht_, hm_LotError⟩
  ex_LotError := ex_LotError
  ty_LotError := ty_LotError
  li := ⟨li1, li2, li3⟩
  ko_NoText_NoText := ko_NoText_NoText
  ko_NoText_ValueError := ko_NoText_ValueError
  ka_a := ka_a
  xm_NoText := exm_of ex_LotError hd_LotError ty_LotError su_NoText
  n_ValueError := PySem.W.mg_none_of X G n_ValueError }
structure T60 (P : Params) (K : PySem.W.Frag) (mg : Str → Option Value) extends T60f K mg, T60x K mg where
  d_ROW : Addr
  e_ROW : Array DictEntry
  n_ROW : Nat
  mg_ROW_TAKERS : mg "ROW_TAKERS" = some (.ref d_ROW)
  l_ROW : K.lookup d_ROW = some ⟨.type "dict", none, .dict e_ROW n_ROW, #[]⟩
  kl_ROW : PySem.W.KeysLit P e_ROW.toList
  lo_ROW : (d_ROW == sysModules) = false
  rm : PySem.W.nsIn K d_ROW "member" = some (some (.ref f_member_taken))
  rb : PySem.W.nsIn K d_ROW "bar" = some (some (.ref f_bar_taken))
  ry : PySem.W.nsIn K d_ROW "year" = some (some (.ref f_year_taken))
  rp : PySem.W.nsIn K d_ROW "" = some (some (.ref f_pair_taken))
def T60_mk {P : Params} {K : PySem.W.Frag} {h : Heap} {mg : Str → Option Value} (X : K.In h) (G : h.Ns mainGlobals mg) (t1 : T60f K mg) (t2 : T60x K mg) {d : Addr} {e : Array DictEntry} {n : Nat}
    (a_ROW : PySem.W.nsIn K mainGlobals "ROW_TAKERS" = some (some (.ref d))) (l_ROW : K.lookup d = some ⟨.type "dict", none, .dict e n, #[]⟩) (kl_ROW : PySem.W.KeysLit P e.toList) (lo_ROW : (d == sysModules) = false)
    (rm : PySem.W.nsIn K d "member" = some (some (.ref t1.f_member_taken))) (rb : PySem.W.nsIn K d "bar" = some (some (.ref t1.f_bar_taken))) (ry : PySem.W.nsIn K d "year" = some (some (.ref t1.f_year_taken))) (rp : PySem.W.nsIn K d "" = some (some (.ref t1.f_pair_taken))) : T60 P K mg :=
  { toT60f := t1, toT60x := t2, d_ROW := d, e_ROW := e, n_ROW := n, mg_ROW_TAKERS := PySem.W.mg_of X G a_ROW, l_ROW := l_ROW, kl_ROW := kl_ROW, lo_ROW := lo_ROW, rm := rm, rb := rb, ry := ry, rp := rp }
def hasK (z : Str) : Option Bool := if z = "member" ∨ z = "bar" ∨ z = "year" ∨ z = "" then some true else none
/-- Circle(members, bars, past, gap) -/
theorem T60.b4 {Pp : Params} {K : PySem.W.Frag} {mg : Str → Option Value} (T : T60 Pp K mg) : Binds K T.fd_Circle___init__ ["self", "members", "bars", "past", "gap"] [] := by
  obtain ⟨ds, h1, h2⟩ := T.F_Circle___init__.binds1 (ps := ["self", "members", "bars", "past", "gap"]) 5 3 (by simp) rfl (fun T' kV doc pm an cdv ct us its hu hi => by
    match us, hu, its, hi with
    | [_, _, _, _, _], _, [_, _, _], _ => exact ⟨_, rfl, rfl⟩)
  cases h1
  exact h2
end K60

/-! a def whose arguments hold nothing of the store runs as on the empty store -/
namespace MP
open PySem PySem.Spec PyProof.Rows L2
def flatD : D → Bool
  | .non => true
  | .bl _ => true
  | .int _ => true
  | .str _ => true
  | _ => false
def clF (g : F) : F := fun ds S => if belows 0 ds = true then match g ds [] with
  | .ok d _ => if flatD d = true then .ok d S else .bad
  | _ => .bad
  else .bad
theorem FnL.cl {P : Program} {w : World} {K : PySem.W.Frag} {mg : Str → Option Value} {base : Heap} {k : Nat} {f : Addr} {fd : FuncData} {ps : List Str} {g : F} (h : FnL P w K mg base k f fd ps g) : FnL P w K mg base k f fd ps (clF g) := by
  refine FnOk.imp h fun vs H Q E ⟨hl, m, S, ds, x, r, nb, q1, q2⟩ => ?_
  unfold clF at nb q1 q2
  by_cases hb : belows 0 ds = true
  case neg => rw [if_neg hb] at nb; exact absurd rfl nb
  rw [if_pos hb] at nb q1 q2
  have x0 : SR K [] H [] := ⟨List.nodup_nil, rfl, fun i a o h => by simp at h⟩
  have r0 : VRs K ([] ++ m) H vs ds := r
  refine ⟨hl, [], [], ds, x0, r0.down hb, ?_, ?_, ?_⟩
  · intro z
    rw [z] at nb
    exact absurd rfl nb
  · intro d S' e v H' qv
    rw [e] at nb q1
    dsimp only at nb q1
    by_cases hf : flatD d = true
    case neg => rw [if_neg hf] at nb; exact absurd rfl nb
    rw [if_pos hf] at q1
    obtain ⟨m1, e1, x1, w1⟩ := qv
    have ex : Ext m H m H' := ⟨⟨[], by simp⟩, fun a h => .inl h, fun a o _ => e1.keep a o (by simp)⟩
    have hx : SR K m H' S := ⟨x.nd, x.len, fun i a o h1 h2 => (x.at_ i a o h1 h2).ext ex x.muts (by
      have hm := x.mut (List.mem_of_getElem? h1)
      cases ho : H a with
      | none => rw [ho] at hm; exact absurd hm (fun z => z)
      | some ob => exact e1.keep a ob (by simp) ho)⟩
    refine q1 _ _ rfl v H' ⟨m, ex, hx, ?_⟩
    cases w1 with
    | non => exact .non
    | bl b => exact .bl b
    | int i => exact .int i
    | str s => exact .str s
    | _ => cases hf
  · intro C fs S' e
    rw [e] at nb
    exact absurd rfl nb
theorem clF_ok {g : F} {ds : List D} {S S' : Sto} {d : D} (hb : belows 0 ds = true) (h : g ds [] = .ok d S') (hf : flatD d = true) : clF g ds S = .ok d S := by
  unfold clF
  rw [if_pos hb, h]
  exact if_pos hf
end MP

/-! loops and comprehensions in a form that the kernel can run -/
namespace MP
open PySem PySem.Spec PyProof.Rows L2
mutual
def beqD : D → D → Bool
  | .non, .non => true
  | .bl a, .bl b => decide (a = b)
  | .int a, .int b => decide (a = b)
  | .str a, .str b => decide (a = b)
  | .tup a, .tup b => beqDs a b
  | .ftup a, .ftup b => beqDs a b
  | .lst a, .lst b => beqDs a b
  | .dct t a, .dct u b => decide (t = u) && beqDk a b
  | .obj C a, .obj E b => decide (C = E) && beqDf a b
  | .exn C a, .exn E b => decide (C = E) && beqDf a b
  | .ref i, .ref j => decide (i = j)
  | _, _ => false
termination_by structural a => a
def beqDs : List D → List D → Bool
  | [], [] => true
  | a :: as, b :: bs => beqD a b && beqDs as bs
  | _, _ => false
termination_by structural a => a
def beqDk : List (D × D) → List (D × D) → Bool
  | [], [] => true
  | (k, a) :: as, (l, b) :: bs => beqD k l && (beqD a b && beqDk as bs)
  | _, _ => false
termination_by structural a => a
def beqDf : List (Str × D) → List (Str × D) → Bool
  | [], [] => true
  | (k, a) :: as, (l, b) :: bs => decide (k = l) && (beqD a b && beqDf as bs)
  | _, _ => false
termination_by structural a => a
end
mutual
theorem beqD_eq : ∀ {a b : D}, beqD a b = true → a = b
  | .non, b, h => by cases b <;> first | rfl | (simp [beqD] at h)
  | .bl a, b, h => by cases b <;> first | (simp [beqD] at h; rw [h]) | (simp [beqD] at h)
  | .int a, b, h => by cases b <;> first | (simp [beqD] at h; rw [h]) | (simp [beqD] at h)
  | .str a, b, h => by cases b <;> first | (simp [beqD] at h; rw [h]) | (simp [beqD] at h)
  | .tup a, b, h => by cases b <;> first | (simp only [beqD] at h; rw [beqDs_eq h]) | (simp [beqD] at h)
  | .ftup a, b, h => by cases b <;> first | (simp only [beqD] at h; rw [beqDs_eq h]) | (simp [beqD] at h)
  | .lst a, b, h => by cases b <;> first | (simp only [beqD] at h; rw [beqDs_eq h]) | (simp [beqD] at h)
  | .dct t a, b, h => by cases b <;> first | (simp only [beqD, Bool.and_eq_true, decide_eq_true_eq] at h; rw [h.1, beqDk_eq h.2]) | (simp [beqD] at h)
  | .obj C a, b, h => by cases b <;> first | (simp only [beqD, Bool.and_eq_true, decide_eq_true_eq] at h; rw [h.1, beqDf_eq h.2]) | (simp [beqD] at h)
  | .exn C a, b, h => by cases b <;> first | (simp only [beqD, Bool.and_eq_true, decide_eq_true_eq] at h; rw [h.1, beqDf_eq h.2]) | (simp [beqD] at h)
  | .ref i, b, h => by cases b <;> first | (simp [beqD] at h; rw [h]) | (simp [beqD] at h)
theorem beqDs_eq : ∀ {a b : List D}, beqDs a b = true → a = b
  | [], [], _ => rfl
  | [], _ :: _, h => by simp [beqDs] at h
  | _ :: _, [], h => by simp [beqDs] at h
  | x :: xs, y :: ys, h => by
    simp only [beqDs, Bool.and_eq_true] at h
    rw [beqD_eq h.1, beqDs_eq h.2]
theorem beqDk_eq : ∀ {a b : List (D × D)}, beqDk a b = true → a = b
  | [], [], _ => rfl
  | [], _ :: _, h => by simp [beqDk] at h
  | _ :: _, [], h => by simp [beqDk] at h
  | (k, x) :: xs, (l, y) :: ys, h => by
    simp only [beqDk, Bool.and_eq_true] at h
    rw [beqD_eq h.1, beqD_eq h.2.1, beqDk_eq h.2.2]
theorem beqDf_eq : ∀ {a b : List (Str × D)}, beqDf a b = true → a = b
  | [], [], _ => rfl
  | [], _ :: _, h => by simp [beqDf] at h
  | _ :: _, [], h => by simp [beqDf] at h
  | (k, x) :: xs, (l, y) :: ys, h => by
    simp only [beqDf, Bool.and_eq_true, decide_eq_true_eq] at h
    rw [h.1, beqD_eq h.2.1, beqDf_eq h.2.2]
end
mutual
theorem beqD_refl : ∀ a : D, beqD a a = true
  | .non => rfl
  | .bl a => by simp [beqD]
  | .int a => by simp [beqD]
  | .str a => by simp [beqD]
  | .tup a => by simp only [beqD]; exact beqDs_refl a
  | .ftup a => by simp only [beqD]; exact beqDs_refl a
  | .lst a => by simp only [beqD]; exact beqDs_refl a
  | .dct t a => by simp only [beqD, decide_true, Bool.true_and]; exact beqDk_refl a
  | .obj C a => by simp only [beqD, decide_true, Bool.true_and]; exact beqDf_refl a
  | .exn C a => by simp only [beqD, decide_true, Bool.true_and]; exact beqDf_refl a
  | .ref i => by simp [beqD]
theorem beqDs_refl : ∀ a : List D, beqDs a a = true
  | [] => rfl
  | x :: xs => by simp only [beqDs, beqD_refl x, beqDs_refl xs, Bool.and_self]
theorem beqDk_refl : ∀ a : List (D × D), beqDk a a = true
  | [] => rfl
  | (k, x) :: xs => by simp only [beqDk, beqD_refl k, beqD_refl x, beqDk_refl xs, Bool.and_self]
theorem beqDf_refl : ∀ a : List (Str × D), beqDf a a = true
  | [] => rfl
  | (k, x) :: xs => by simp only [beqDf, decide_true, beqD_refl x, beqDf_refl xs, Bool.and_self]
end
structure ItsB where
  items : List D
  chk : Sto → Bool
abbrev LK := Ev → Sto → R ItsB
def toI (r : R ItsB) : R Its' := match r with
  | .ok it S => .ok ⟨it.items, fun S => it.chk S = true⟩ S
  | .exc C fs S => .exc C fs S
  | .bad => .bad
def toIL (k : LK) : LI := fun ρ S => toI (k ρ S)
def forK (ρ0 : Ev) (chk : Sto → Bool) (g : GT) (lb : LS) : List D → LS
  | [] => fun ρ S => if chk S = true then .ok (.nx ρ) S else .bad
  | d :: ds => fun ρ S => if chk S = true then (match g d ρ with
    | some ρ1 => (lb ρ1 S).bind (Fl.loop ρ0 (forK ρ0 chk g lb ds))
    | none => .bad) else .bad
def lForK (k : LK) (g : GT) (lb : LS) : LS := fun ρ S => liftX ρ (k ρ S) fun it S1 => forK ρ it.chk g lb it.items ρ S1
theorem forG_K (ρ0 : Ev) (chk : Sto → Bool) (g : GT) (lb : LS) : ∀ ds : List D, forG ρ0 (fun S => chk S = true) g lb ds = forK ρ0 chk g lb ds
  | [] => by
    funext ρ S
    unfold forG forK
    by_cases h : chk S = true
    · rw [if_pos h, if_pos h]
    · rw [if_neg h, if_neg h]
  | d :: ds => by
    funext ρ S
    unfold forG forK
    rw [forG_K ρ0 chk g lb ds]
    by_cases h : chk S = true
    · first
        | (rw [if_pos h, if_pos h]; done)
        | (rw [if_pos h, if_pos h]; cases g d ρ <;> rfl)
    · rw [if_neg h, if_neg h]
theorem lFor_K (k : LK) (g : GT) (lb : LS) : lFor (toIL k) g lb = lForK k g lb := by
  funext ρ S
  unfold lFor lForK toIL toI
  cases k ρ S with
  | ok it S1 =>
    show forG ρ (fun S => it.chk S = true) g lb it.items ρ S1 = forK ρ it.chk g lb it.items ρ S1
    rw [forG_K]
  | exc C fs S1 => rfl
  | bad => rfl
def compK (chk : Sto → Bool) (g : GT) (tt : LT) (te : LE) (ρ0 : Ev) : List D → Sto → R (List D)
  | [], S => if chk S = true then .ok [] S else .bad
  | d :: ds, S => if chk S = true then (match g d ρ0 with
    | some ρ1 => (noex (tt ρ1 S)).bind fun b S1 => if b = true then (noex (te ρ1 S1)).bind fun y S2 => (compK chk g tt te ρ0 ds S2).bind fun ys S3 => .ok (y :: ys) S3 else compK chk g tt te ρ0 ds S1
    | none => .bad) else .bad
theorem compG_K (chk : Sto → Bool) (g : GT) (tt : LT) (te : LE) (ρ0 : Ev) : ∀ (ds : List D), compG (fun S => chk S = true) g tt te ρ0 ds = compK chk g tt te ρ0 ds
  | [] => by
    funext S
    unfold compG compK
    by_cases h : chk S = true
    · rw [if_pos h, if_pos h]
    · rw [if_neg h, if_neg h]
  | d :: ds => by
    funext S
    unfold compG compK
    rw [compG_K chk g tt te ρ0 ds]
    by_cases h : chk S = true
    · first
        | (rw [if_pos h, if_pos h]; done)
        | (rw [if_pos h, if_pos h]; cases g d ρ0 <;> rfl)
    · rw [if_neg h, if_neg h]
def compLK (k : LK) (ix : List Nat) (g : GT) (tt : LT) (te : LE) : LA := fun ρ S => (k ρ S).bind fun it S1 => if it.items.length ≤ sizeLine then compK it.chk g tt te (wipeE ρ ix) it.items S1 else .bad
def lCompK (k : LK) (ix : List Nat) (g : GT) (tt : LT) (te : LE) : LE := fun ρ S => (compLK k ix g tt te ρ S).bind fun ys S2 => .ok (.lst ys) S2
theorem lComp_K (k : LK) (ix : List Nat) (g : GT) (tt : LT) (te : LE) : lComp (toIL k) ix g tt te = lCompK k ix g tt te := by
  funext ρ S
  unfold lComp lCompK compL compLK toIL toI
  cases k ρ S with
  | ok it S1 =>
    show ((if it.items.length ≤ sizeLine then compG (fun S => it.chk S = true) g tt te (wipeE ρ ix) it.items S1 else .bad).bind _) = _
    rw [compG_K]
    rfl
  | exc C fs S1 => rfl
  | bad => rfl
theorem psl_toK {X : Cx} {st : Stmt} {li : LI} {k : LK} {g : GT} {lb : LS} (hk : li = toIL k) (h : PSL X st (lFor li g lb)) : PSL X st (lForK k g lb) := by
  subst hk; rw [← lFor_K]; exact h
theorem pel_toK {X : Cx} {e : Expr} {li : LI} {k : LK} {ix : List Nat} {g : GT} {tt : LT} {te : LE} (hk : li = toIL k) (h : PEL X e (lComp li ix g tt te)) : PEL X e (lCompK k ix g tt te) := by
  subst hk; rw [← lComp_K]; exact h
theorem psl_toKs {X : Cx} {st : Stmt} {i : Nat} {li : LI} {k : LK} {ix : List Nat} {g : GT} {tt : LT} {te : LE} (hk : li = toIL k) (h : PSL X st (lSet i (lComp li ix g tt te))) : PSL X st (lSet i (lCompK k ix g tt te)) := by
  subst hk; rw [← lComp_K]; exact h
/-! the iterables -/
def iterK (S : Sto) : D → Option ItsB
  | .lst xs => some ⟨xs, fun _ => true⟩
  | .tup xs => some ⟨xs, fun _ => true⟩
  | .ftup xs => some ⟨xs, fun _ => true⟩
  | .str z => some ⟨z.cps.toList.map fun c => .str ⟨#[c]⟩, fun _ => true⟩
  | .ref i => match S[i]? with
    | some (.lst xs) => some ⟨xs, fun S' => match S'[i]? with
      | some (.lst ys) => beqDs ys xs
      | _ => false⟩
    | _ => none
  | _ => none
def liftK (o : Option ItsB) (S : Sto) : R ItsB := match o with
  | some d => .ok d S
  | none => .bad
def lIterK (l : LE) : LK := fun ρ S => (l ρ S).bind fun d S1 => liftK (iterK S1 d) S1
theorem tt_eq : (fun (_ : Sto) => True) = fun (_ : Sto) => (true = true) := by funext S; exact (eq_self true).symm
theorem iter_k {l : LE} : lIter l = toIL (lIterK l) := by
  funext ρ S
  unfold lIter toIL lIterK
  cases l ρ S with
  | ok d S1 =>
    show liftI (iterOf S1 d) S1 = toI (liftK (iterK S1 d) S1)
    unfold iterOf iterK
    cases d with
    | lst xs => show R.ok (Its'.mk xs _) S1 = R.ok (Its'.mk xs _) S1; rw [tt_eq]
    | tup xs => show R.ok (Its'.mk xs _) S1 = R.ok (Its'.mk xs _) S1; rw [tt_eq]
    | ftup xs => show R.ok (Its'.mk xs _) S1 = R.ok (Its'.mk xs _) S1; rw [tt_eq]
    | str z => show R.ok (Its'.mk _ _) S1 = R.ok (Its'.mk _ _) S1; rw [tt_eq]
    | ref i =>
      dsimp only
      cases hS : S1[i]? with
      | none => rfl
      | some o =>
        cases o with
        | lst xs =>
          show R.ok (Its'.mk xs _) S1 = R.ok (Its'.mk xs _) S1
          have e : (fun (S' : Sto) => S'[i]? = some (.lst xs)) = fun (S' : Sto) => (match S'[i]? with
              | some (.lst ys) => beqDs ys xs
              | _ => false) = true := by
            funext S'
            refine propext ⟨fun h => ?_, fun h => ?_⟩
            · rw [h]; exact beqDs_refl xs
            · split at h
              · rename_i ys hy
                rw [hy, beqDs_eq h]
              · cases h
          rw [e]
        | _ => rfl
    | _ => rfl
  | exc C fs S1 => rfl
  | bad => rfl
def lEnumCK (c : Int) (t : LA) : LK := fun ρ S => (t ρ S).bind fun ds S1 => match ds with
  | [.lst xs] => .ok ⟨enumFD c xs, fun _ => true⟩ S1
  | _ => .bad
theorem enumC_k {c : Int} {t : LA} : lEnumC c t = toIL (lEnumCK c t) := by
  funext ρ S
  unfold lEnumC toIL lEnumCK
  cases t ρ S with
  | ok ds S1 =>
    rw [bind_ok, bind_ok]
    split
    · show R.ok (Its'.mk _ _) S1 = R.ok (Its'.mk _ _) S1
      rw [tt_eq]
    · rename_i hne
      first
        | rfl
        | (split
           · rename_i xs; exact absurd rfl (hne xs)
           · rfl)
  | exc C fs S1 => rfl
  | bad => rfl
def lEnumK (t : LA) : LK := fun ρ S => (t ρ S).bind fun ds S1 => match ds with
  | [.lst xs] => .ok ⟨enumD xs, fun _ => true⟩ S1
  | _ => .bad
theorem enum_k {t : LA} : lEnum t = toIL (lEnumK t) := by
  funext ρ S
  unfold lEnum toIL lEnumK
  cases t ρ S with
  | ok ds S1 =>
    rw [bind_ok, bind_ok]
    split
    · show R.ok (Its'.mk _ _) S1 = R.ok (Its'.mk _ _) S1
      rw [tt_eq]
    · rename_i hne
      first
        | rfl
        | (split
           · rename_i xs; exact absurd rfl (hne xs)
           · rfl)
  | exc C fs S1 => rfl
  | bad => rfl
def lZipK (t : LA) : LK := fun ρ S => (t ρ S).bind fun ds S1 => match zipOf ds with
  | some items => .ok ⟨items, fun _ => true⟩ S1
  | none => .bad
theorem zip_k {t : LA} : lZip t = toIL (lZipK t) := by
  funext ρ S
  unfold lZip toIL lZipK
  cases t ρ S with
  | ok ds S1 =>
    rw [bind_ok, bind_ok]
    cases zipOf ds with
    | some items =>
      show R.ok (Its'.mk _ _) S1 = R.ok (Its'.mk _ _) S1
      rw [tt_eq]
    | none => rfl
  | exc C fs S1 => rfl
  | bad => rfl
end MP

namespace K60
open PySem PySem.Spec PyProof.Rows L2 MP
section
variable {P : Program} {w : World} {K : PySem.W.Frag} {mg : Str → Option Value} {base : Heap}
theorem spE_len {K : PySem.W.Frag} {ps fs : List Str} (hp : ps.length = fs.length + 1) : ∀ vs H Q E, spE K fs vs H Q E → vs.length = ps.length := fun vs H Q E ⟨e, C, ys, ev, hl, _⟩ => by rw [ev, hp, List.length_cons, hl]
theorem fe_NoText (T : T60 w.params K mg) : FnE P w K mg base 1 T.f_NoText___init__ T.fd_NoText___init__ ["self", "row"] ["row"] :=
  Fun.okG T.F_NoText___init__ sc_NoText___init__ (spE_len rfl) fun cdv A outer s H vs Q E hr h => ⟨_, pss_cons (ps_expr (pe_loinit T.li rfl T.mg_LotError (pa_cons (pv 0) (pa_cons pe_str pa_nil)))) (pss_cons (ps_ost (pv 0) (pv 1)) pss_nil), rd_init1 h⟩
theorem hasK_ok (T : T60 w.params K mg) : ∀ z b, hasK z = some b → ∃ r, PySem.W.nsIn K T.d_ROW z = some r ∧ r.isSome = b := by
  intro z b h
  unfold hasK at h
  split at h
  · rename_i hz
    cases h
    rcases hz with rfl | rfl | rfl | rfl
    · exact ⟨_, T.rm, rfl⟩
    · exact ⟨_, T.rb, rfl⟩
    · exact ⟨_, T.ry, rfl⟩
    · exact ⟨_, T.rp, rfl⟩
  · cases h
def pk_is_name (T : T60 w.params K mg) : {g : F // FnL P w K mg base 1 T.f_is_name T.fd_is_name ["thing"] g} := ⟨_, Fun.okL T.F_is_name sc_is_name fun cdv A outer s H E hr =>
(pssl_cons (psl_if (PWL.pt (pwl_or (ptl_not (ptl_truth (pel_isi rfl T.n_isinstance (pel_var (i := 0)) (pe_bltn rfl T.n_str (v := .ty "str") (u := .type "str") (by decide +kernel) rfl) (.ty _) isi_strA))) (pwl_or1 (ptl_not (ptl_chain opl_le2 opl_le2 pel_int (pel_callB (cl_len) rfl T.n_len (by decide +kernel) (pal_cons (pel_var (i := 0)) pal_nil)) (pel_gint rfl T.mg_MOST_LETTERS)))))) (pssl_one (psl_ret pel_bl)) pssl_nil)
  (pssl_one (psl_ret (pel_callB (cl_all rfl) rfl T.n_all (by decide +kernel) (pal_cons (pel_toK iter_k (pel_lc (own := [("letter", 1)]) rfl sc_is_name.nd (pil_val (pel_var (i := 0))) (blkOk_by (N := N_is_name) (sc := defScope s_is_name) (by decide +kernel)) (fun _ _ _ _ _ => (pgl_name (i := 1) sc_is_name.nd)) (fun _ _ _ _ _ => ptsl_nil) (fun _ _ _ _ _ => (pel_cmp opl_inSg (pel_var (i := 1)) (pel_gstr rfl T.mg_LETTERS))))) pal_nil)))))⟩
def pk_is_pair (T : T60 w.params K mg) : {g : F // FnL P w K mg base 2 T.f_is_pair T.fd_is_pair ["thing"] g} := ⟨_, Fun.okL T.F_is_pair sc_is_pair fun cdv A outer s H E hr =>
(pssl_one (psl_ret (pel_and (pel_isi rfl T.n_isinstance (pel_var (i := 0)) (pe_bltn rfl T.n_tuple (v := .ty "tuple") (u := .type "tuple") (by decide +kernel) rfl) (.ty _) isi_tupleA) (pel_and (pel_cmp (opl_eq hr.units) (pel_callB (cl_len) rfl T.n_len (by decide +kernel) (pal_cons (pel_var (i := 0)) pal_nil)) pel_int) (pel_and (pel_call (pk_is_name (P := P) (w := w) (base := base) T).2 (hr.mono (by decide)) rfl T.mg_is_name T.F_is_name.kp T.b_is_name dfl_nil (pal_cons (pel_ix ixl_seq (pel_var (i := 0)) pel_int) pal_nil)) (pel_one (pel_call (pk_is_name (P := P) (w := w) (base := base) T).2 (hr.mono (by decide)) rfl T.mg_is_name T.F_is_name.kp T.b_is_name dfl_nil (pal_cons (pel_ix ixl_seq (pel_var (i := 0)) pel_int) pal_nil))))))))⟩
def pk_does_rise (T : T60 w.params K mg) : {g : F // FnL P w K mg base 1 T.f_does_rise T.fd_does_rise ["things"] g} := ⟨_, Fun.okL T.F_does_rise sc_does_rise fun cdv A outer s H E hr =>
(pssl_one (psl_ret (pel_callB (cl_all rfl) rfl T.n_all (by decide +kernel) (pal_cons (pel_toK zip_k (pel_lc (own := [("one", 1), ("other", 2)]) rfl sc_does_rise.nd (pil_zip rfl T.n_zip (pal_cons (pel_var (i := 0)) (pal_cons (pel_slice sll_any (pel_var (i := 0)) (pol_some pel_int) pol_none) pal_nil))) (blkOk_by (N := N_does_rise) (sc := defScope s_does_rise) (by decide +kernel)) (fun _ _ _ _ _ => (pgl_tup (n := 2) rfl (pgsl_cons (pgl_name (i := 1) sc_does_rise.nd) (pgsl_cons (pgl_name (i := 2) sc_does_rise.nd) pgsl_nil)))) (fun _ _ _ _ _ => ptsl_nil) (fun _ _ _ _ _ => (pel_cmp (opl_lt2 hr.units) (pel_var (i := 1)) (pel_var (i := 2)))))) pal_nil))))⟩
def pk_are_pairs (T : T60 w.params K mg) : {g : F // FnL P w K mg base 3 T.f_are_pairs T.fd_are_pairs ["thing"] g} := ⟨_, Fun.okL T.F_are_pairs sc_are_pairs fun cdv A outer s H E hr =>
(pssl_one (psl_ret (pel_and (pel_isi rfl T.n_isinstance (pel_var (i := 0)) (pe_bltn rfl T.n_tuple (v := .ty "tuple") (u := .type "tuple") (by decide +kernel) rfl) (.ty _) isi_tupleA) (pel_and (pel_callB (cl_all rfl) rfl T.n_all (by decide +kernel) (pal_cons (pel_toK iter_k (pel_lc (own := [("one", 1)]) rfl sc_are_pairs.nd (pil_val (pel_var (i := 0))) (blkOk_by (N := N_are_pairs) (sc := defScope s_are_pairs) (by decide +kernel)) (fun _ _ _ _ _ => (pgl_name (i := 1) sc_are_pairs.nd)) (fun _ _ _ _ _ => ptsl_nil) (fun _ _ _ _ _ => (pel_call (pk_is_pair (P := P) (w := w) (base := base) T).2 (hr.mono (by decide)) rfl T.mg_is_pair T.F_is_pair.kp T.b_is_pair dfl_nil (pal_cons (pel_var (i := 1)) pal_nil))))) pal_nil)) (pel_one (pel_call (pk_does_rise (P := P) (w := w) (base := base) T).2 (hr.mono (by decide)) rfl T.mg_does_rise T.F_does_rise.kp T.b_does_rise dfl_nil (pal_cons (pel_var (i := 0)) pal_nil)))))))⟩
def pk_still_to_give (T : T60 w.params K mg) : {g : F // FnL P w K mg base 1 T.f_still_to_give T.fd_still_to_give ["pairs"] g} := ⟨_, Fun.okL T.F_still_to_give sc_still_to_give fun cdv A outer s H E hr =>
(pssl_cons (psl_set (i := 1) sc_still_to_give.nd (pel_toK iter_k (pel_lc (own := [("giver", 2), ("taker", 3)]) rfl sc_still_to_give.nd (pil_val (pel_var (i := 0))) (blkOk_by (N := N_still_to_give) (sc := defScope s_still_to_give) (by decide +kernel)) (fun _ _ _ _ _ => (pgl_tup (n := 2) rfl (pgsl_cons (pgl_name (i := 2) sc_still_to_give.nd) (pgsl_cons (pgl_name (i := 3) sc_still_to_give.nd) pgsl_nil)))) (fun _ _ _ _ _ => ptsl_nil) (fun _ _ _ _ _ => (pel_var (i := 2))))))
  (pssl_one (psl_ret (pel_toK iter_k (pel_lc (own := [("giver", 2), ("taker", 3)]) rfl sc_still_to_give.nd (pil_val (pel_var (i := 0))) (blkOk_by (N := N_still_to_give) (sc := defScope s_still_to_give) (by decide +kernel)) (fun _ _ _ _ _ => (pgl_tup (n := 2) rfl (pgsl_cons (pgl_name (i := 2) sc_still_to_give.nd) (pgsl_cons (pgl_name (i := 3) sc_still_to_give.nd) pgsl_nil)))) (fun _ _ _ _ _ => (ptsl_one (ptl_cmp opl_notInL (pel_var (i := 3)) (pel_var (i := 1))))) (fun _ _ _ _ _ => (pel_var (i := 3))))))))⟩
def pk_are_drawn (T : T60 w.params K mg) : {g : F // FnL P w K mg base 4 T.f_are_drawn T.fd_are_drawn ["thing"] g} := ⟨_, Fun.okL T.F_are_drawn sc_are_drawn fun cdv A outer s H E hr =>
(pssl_cons (psl_if (ptl_not (ptl_truth (pel_call (pk_are_pairs (P := P) (w := w) (base := base) T).2 (hr.mono (by decide)) rfl T.mg_are_pairs T.F_are_pairs.kp T.b_are_pairs dfl_nil (pal_cons (pel_var (i := 0)) pal_nil)))) (pssl_one (psl_ret pel_bl)) pssl_nil)
  (pssl_cons (psl_toKs iter_k (psl_setLc (i := 1) (own := [("giver", 2), ("taker", 3)]) sc_are_drawn.nd rfl (sw_true rfl rfl rfl (by decide +kernel)) rfl (pil_val (pel_var (i := 0))) (blkOk_by (N := N_are_drawn) (sc := defScope s_are_drawn) (by decide +kernel)) (.inl rfl) (fun _ _ _ _ _ => (pgl_tup (n := 2) rfl (pgsl_cons (pgl_name (i := 2) sc_are_drawn.nd) (pgsl_cons (pgl_name (i := 3) sc_are_drawn.nd) pgsl_nil)))) (fun _ _ _ _ _ => ptsl_nil) (fun _ _ _ _ _ => (pel_var (i := 2)))))
  (pssl_cons (psl_if (ptl_cmp (opl_ne hr.units) (pel_lenSet rfl rfl T.n_len rfl T.n_set (pal_cons (pel_var (i := 1)) pal_nil)) (pel_callB (cl_len) rfl T.n_len (by decide +kernel) (pal_cons (pel_var (i := 1)) pal_nil))) (pssl_one (psl_ret pel_bl)) pssl_nil)
  (pssl_one (psl_ret (pel_cmp (opl_eq hr.units) (pel_callB (cl_sorted hr.units) rfl T.n_sorted (by decide +kernel) (pal_cons (pel_toK iter_k (pel_lc (own := [("giver", 2), ("taker", 3)]) rfl sc_are_drawn.nd (pil_val (pel_var (i := 0))) (blkOk_by (N := N_are_drawn) (sc := defScope s_are_drawn) (by decide +kernel)) (fun _ _ _ _ _ => (pgl_tup (n := 2) rfl (pgsl_cons (pgl_name (i := 2) sc_are_drawn.nd) (pgsl_cons (pgl_name (i := 3) sc_are_drawn.nd) pgsl_nil)))) (fun _ _ _ _ _ => ptsl_nil) (fun _ _ _ _ _ => (pel_var (i := 3))))) pal_nil)) (pel_var (i := 1))))))))⟩
def pk_Drawing___init__ (T : T60 w.params K mg) : {g : F // FnL P w K mg base 5 T.f_Drawing___init__ T.fd_Drawing___init__ ["self", "pairs"] g} := ⟨_, Fun.okL T.F_Drawing___init__ sc_Drawing___init__ fun cdv A outer s H E hr =>
(pssl_cons (psl_if (ptl_not (ptl_truth (pel_call (pk_are_drawn (P := P) (w := w) (base := base) T).2 (hr.mono (by decide)) rfl T.mg_are_drawn T.F_are_drawn.kp T.b_are_drawn dfl_nil (pal_cons (pel_var (i := 1)) pal_nil)))) (pssl_one psl_bad) pssl_nil)
  (pssl_one (psl_fld T.cl_Drawing T.na_Drawing_pairs (pel_var (i := 0)) (pel_var (i := 1)))))⟩
def pk_Circle___init__ (T : T60 w.params K mg) : {g : F // FnL P w K mg base 1 T.f_Circle___init__ T.fd_Circle___init__ ["self", "members", "bars", "past", "gap"] g} := ⟨_, FunD.okL T.F_Circle___init__ sc_Circle___init__ fun cdv A outer s H E hr =>
(pssl_cons (psl_fld T.cl_Circle T.na_Circle_members (pel_var (i := 0)) (pel_var (i := 1)))
  (pssl_cons (psl_fld T.cl_Circle T.na_Circle_bars (pel_var (i := 0)) (pel_or (pel_var (i := 2)) (pel_one pel_tup0)))
  (pssl_cons (psl_fld T.cl_Circle T.na_Circle_past (pel_var (i := 0)) (pel_or (pel_var (i := 3)) (pel_one pel_tup0)))
  (pssl_cons (psl_fld T.cl_Circle T.na_Circle_gap (pel_var (i := 0)) (pel_var (i := 4)))
  (pssl_cons (psl_fld T.cl_Circle T.na_Circle_houses (pel_var (i := 0)) (pel_callTy (cl_dictK rfl) rfl T.n_dict (by decide +kernel) (pal_cons (pel_fld T.cl_Circle T.na_Circle_members (pel_var (i := 0))) pal_nil)))
  (pssl_cons (psl_fld T.cl_Circle T.na_Circle_names_told (pel_var (i := 0)) (pel_callTy (cl_tupD rfl) rfl T.n_tuple (by decide +kernel) (pal_cons (pel_fld T.cl_Circle T.na_Circle_houses (pel_var (i := 0))) pal_nil)))
  (pssl_cons (psl_fld T.cl_Circle T.na_Circle_barred (pel_var (i := 0)) (pel_callTy (cl_dictT rfl hr.units) rfl T.n_dict (by decide +kernel) (pal_cons (pel_toK iter_k (pel_lc (own := [("pair", 5)]) rfl sc_Circle___init__.nd (pil_val (pel_fld T.cl_Circle T.na_Circle_bars (pel_var (i := 0)))) (blkOk_by (N := N_Circle___init__) (sc := defScope s_Circle___init__) (by decide +kernel)) (fun _ _ _ _ _ => (pgl_name (i := 5) sc_Circle___init__.nd)) (fun _ _ _ _ _ => ptsl_nil) (fun _ _ _ _ _ => (pel_tup (pal_cons (pel_var (i := 5)) (pal_cons pel_bl pal_nil)))))) pal_nil)))
  (pssl_cons (psl_fld T.cl_Circle T.na_Circle_gone_by (pel_var (i := 0)) pel_dctT)
  (pssl_one (psl_toK iter_k (psl_for (passes_of rfl) rfl (pil_val (pel_slice sll_any (pel_fld T.cl_Circle T.na_Circle_past (pel_var (i := 0))) (pol_some (pel_callB (cl_max2 rfl) rfl T.n_max (by decide +kernel) (pal_cons pel_int (pal_cons (pel_op opl_sub (pel_callB (cl_len) rfl T.n_len (by decide +kernel) (pal_cons (pel_fld T.cl_Circle T.na_Circle_past (pel_var (i := 0))) pal_nil)) (pel_fld T.cl_Circle T.na_Circle_gap (pel_var (i := 0)))) pal_nil)))) pol_none)) (pgl_name (i := 6) sc_Circle___init__.nd) (pssl_one psl_bad))))))))))))⟩
def pk_is_number_text (T : T60 w.params K mg) : {g : F // FnL P w K mg base 1 T.f_is_number_text T.fd_is_number_text ["text"] g} := ⟨_, Fun.okL T.F_is_number_text sc_is_number_text fun cdv A outer s H E hr =>
(pssl_cons (psl_if (PWL.pt (pwl_or (ptl_not (ptl_chain opl_le2 opl_le2 pel_int (pel_callB (cl_len) rfl T.n_len (by decide +kernel) (pal_cons (pel_var (i := 0)) pal_nil)) (pel_gint rfl T.mg_MOST_FIGURES))) (pwl_or1 (ptl_not (ptl_truth (pel_callB (cl_all rfl) rfl T.n_all (by decide +kernel) (pal_cons (pel_toK iter_k (pel_lc (own := [("sign", 1)]) rfl sc_is_number_text.nd (pil_val (pel_var (i := 0))) (blkOk_by (N := N_is_number_text) (sc := defScope s_is_number_text) (by decide +kernel)) (fun _ _ _ _ _ => (pgl_name (i := 1) sc_is_number_text.nd)) (fun _ _ _ _ _ => ptsl_nil) (fun _ _ _ _ _ => (pel_cmp opl_inSg (pel_var (i := 1)) (pel_gstr rfl T.mg_FIGURE_SIGNS))))) pal_nil))))))) (pssl_one (psl_ret pel_bl)) pssl_nil)
  (pssl_one (psl_ret (pel_or (pel_cmp (opl_eq hr.units) (pel_var (i := 0)) pel_str) (pel_one (pel_cmp (opl_ne hr.units) (pel_ix ixl_seq (pel_var (i := 0)) pel_int) pel_str))))))⟩
def pk_comes_behind (T : T60 w.params K mg) : {g : F // FnL P w K mg base 1 T.f_comes_behind T.fd_comes_behind ["things", "thing"] g} := ⟨_, Fun.okL T.F_comes_behind sc_comes_behind fun cdv A outer s H E hr =>
(pssl_one (psl_ret (pel_or (pel_cmp (opl_eq hr.units) (pel_var (i := 0)) (pel_lst pal_nil)) (pel_one (pel_cmp (opl_ltD hr.units) (pel_ix ixl_seq (pel_var (i := 0)) (pel_un unl_neg pel_int)) (pel_var (i := 1)))))))⟩
def pk_member_taken (T : T60 w.params K mg) : {g : F // FnL P w K mg base 2 T.f_member_taken T.fd_member_taken ["reader", "words"] g} := ⟨_, Fun.okL T.F_member_taken sc_member_taken fun cdv A outer s H E hr =>
(pssl_cons (psl_if (PWL.pt (pwl_or (ptl_cmp (opl_ne hr.units) (pel_fld T.cl_CircleReader T.na_CircleReader_last_kind (pel_var (i := 0))) pel_str) (pwl_or (ptl_cmp opl_notInTI (pel_callB (cl_len) rfl T.n_len (by decide +kernel) (pal_cons (pel_var (i := 1)) pal_nil)) (pel_tup (pal_cons pel_int (pal_cons pel_int pal_nil)))) (pwl_or1 (ptl_not (ptl_truth (pel_callB (cl_all rfl) rfl T.n_all (by decide +kernel) (pal_cons (pel_toK iter_k (pel_lc (own := [("word", 2)]) rfl sc_member_taken.nd (pil_val (pel_slice sll_any (pel_var (i := 1)) (pol_some pel_int) pol_none)) (blkOk_by (N := N_member_taken) (sc := defScope s_member_taken) (by decide +kernel)) (fun _ _ _ _ _ => (pgl_name (i := 2) sc_member_taken.nd)) (fun _ _ _ _ _ => ptsl_nil) (fun _ _ _ _ _ => (pel_call (pk_is_name (P := P) (w := w) (base := base) T).2 (hr.mono (by decide)) rfl T.mg_is_name T.F_is_name.kp T.b_is_name dfl_nil (pal_cons (pel_var (i := 2)) pal_nil))))) pal_nil)))))))) (pssl_one (psl_ret pel_bl)) pssl_nil)
  (pssl_cons (psl_if (ptl_not (ptl_truth (pel_call (pk_comes_behind (P := P) (w := w) (base := base) T).2 (hr.mono (by decide)) rfl T.mg_comes_behind T.F_comes_behind.kp T.b_comes_behind dfl_nil (pal_cons (pel_toK iter_k (pel_lc (own := [("member", 3)]) rfl sc_member_taken.nd (pil_val (pel_fld T.cl_CircleReader T.na_CircleReader_members_told (pel_var (i := 0)))) (blkOk_by (N := N_member_taken) (sc := defScope s_member_taken) (by decide +kernel)) (fun _ _ _ _ _ => (pgl_name (i := 3) sc_member_taken.nd)) (fun _ _ _ _ _ => ptsl_nil) (fun _ _ _ _ _ => (pel_ix ixl_seq (pel_var (i := 3)) pel_int)))) (pal_cons (pel_ix ixl_seq (pel_var (i := 1)) pel_int) pal_nil))))) (pssl_one (psl_ret pel_bl)) pssl_nil)
  (pssl_cons (psl_expr (pel_append (pel_fld T.cl_CircleReader T.na_CircleReader_members_told (pel_var (i := 0))) (pel_tup (pal_cons (pel_ix ixl_seq (pel_var (i := 1)) pel_int) (pal_cons (pel_strjoin pel_str (pel_slice sll_any (pel_var (i := 1)) (pol_some pel_int) pol_none)) pal_nil)))))
  (pssl_one (psl_ret pel_bl)))))⟩
def pk_bar_taken (T : T60 w.params K mg) : {g : F // FnL P w K mg base 2 T.f_bar_taken T.fd_bar_taken ["reader", "words"] g} := ⟨_, Fun.okL T.F_bar_taken sc_bar_taken fun cdv A outer s H E hr =>
(pssl_cons (psl_if (PWL.pt (pwl_or (ptl_cmp opl_notInT (pel_fld T.cl_CircleReader T.na_CircleReader_last_kind (pel_var (i := 0))) (pel_tup (pal_cons pel_str (pal_cons pel_str pal_nil)))) (pwl_or (ptl_cmp (opl_ne hr.units) (pel_callB (cl_len) rfl T.n_len (by decide +kernel) (pal_cons (pel_var (i := 1)) pal_nil)) pel_int) (pwl_or1 (ptl_not (ptl_truth (pel_callB (cl_all rfl) rfl T.n_all (by decide +kernel) (pal_cons (pel_toK iter_k (pel_lc (own := [("word", 2)]) rfl sc_bar_taken.nd (pil_val (pel_slice sll_any (pel_var (i := 1)) (pol_some pel_int) pol_none)) (blkOk_by (N := N_bar_taken) (sc := defScope s_bar_taken) (by decide +kernel)) (fun _ _ _ _ _ => (pgl_name (i := 2) sc_bar_taken.nd)) (fun _ _ _ _ _ => ptsl_nil) (fun _ _ _ _ _ => (pel_call (pk_is_name (P := P) (w := w) (base := base) T).2 (hr.mono (by decide)) rfl T.mg_is_name T.F_is_name.kp T.b_is_name dfl_nil (pal_cons (pel_var (i := 2)) pal_nil))))) pal_nil)))))))) (pssl_one (psl_ret pel_bl)) pssl_nil)
  (pssl_cons (psl_set (i := 3) sc_bar_taken.nd (pel_tup (pal_cons (pel_ix ixl_seq (pel_var (i := 1)) pel_int) (pal_cons (pel_ix ixl_seq (pel_var (i := 1)) pel_int) pal_nil))))
  (pssl_cons (psl_if (ptl_not (ptl_truth (pel_call (pk_comes_behind (P := P) (w := w) (base := base) T).2 (hr.mono (by decide)) rfl T.mg_comes_behind T.F_comes_behind.kp T.b_comes_behind dfl_nil (pal_cons (pel_fld T.cl_CircleReader T.na_CircleReader_bars_told (pel_var (i := 0))) (pal_cons (pel_var (i := 3)) pal_nil))))) (pssl_one (psl_ret pel_bl)) pssl_nil)
  (pssl_cons (psl_fld T.cl_CircleReader T.na_CircleReader_last_kind (pel_var (i := 0)) pel_str)
  (pssl_cons (psl_expr (pel_append (pel_fld T.cl_CircleReader T.na_CircleReader_bars_told (pel_var (i := 0))) (pel_var (i := 3))))
  (pssl_one (psl_ret pel_bl)))))))⟩
def pk_year_taken (T : T60 w.params K mg) : {g : F // FnL P w K mg base 2 T.f_year_taken T.fd_year_taken ["reader", "words"] g} := ⟨_, Fun.okL T.F_year_taken sc_year_taken fun cdv A outer s H E hr =>
(pssl_cons (psl_fld T.cl_CircleReader T.na_CircleReader_last_kind (pel_var (i := 0)) pel_str)
  (pssl_cons (psl_expr (pel_append (pel_fld T.cl_CircleReader T.na_CircleReader_years_told (pel_var (i := 0))) (pel_lstN pal_nil)))
  (pssl_one (psl_ret (pel_cmp (opl_eq hr.units) (pel_callB (cl_len) rfl T.n_len (by decide +kernel) (pal_cons (pel_var (i := 1)) pal_nil)) pel_int)))))⟩
def pk_pair_taken (T : T60 w.params K mg) : {g : F // FnL P w K mg base 2 T.f_pair_taken T.fd_pair_taken ["reader", "words"] g} := ⟨_, Fun.okL T.F_pair_taken sc_pair_taken fun cdv A outer s H E hr =>
(pssl_cons (psl_if (PWL.pt (pwl_or (ptl_cmp (opl_ne hr.units) (pel_fld T.cl_CircleReader T.na_CircleReader_last_kind (pel_var (i := 0))) pel_str) (pwl_or (ptl_cmp (opl_ne hr.units) (pel_callB (cl_len) rfl T.n_len (by decide +kernel) (pal_cons (pel_var (i := 1)) pal_nil)) pel_int) (pwl_or (ptl_cmp (opl_ne hr.units) (pel_ix ixl_seq (pel_var (i := 1)) pel_int) pel_str) (pwl_or1 (ptl_cmp (opl_ne hr.units) (pel_ix ixl_seq (pel_var (i := 1)) pel_int) pel_str)))))) (pssl_one (psl_ret pel_bl)) pssl_nil)
  (pssl_cons (psl_if (PWL.pt (pwl_or (ptl_not (ptl_truth (pel_call (pk_is_name (P := P) (w := w) (base := base) T).2 (hr.mono (by decide)) rfl T.mg_is_name T.F_is_name.kp T.b_is_name dfl_nil (pal_cons (pel_ix ixl_seq (pel_var (i := 1)) pel_int) pal_nil)))) (pwl_or1 (ptl_not (ptl_truth (pel_call (pk_is_name (P := P) (w := w) (base := base) T).2 (hr.mono (by decide)) rfl T.mg_is_name T.F_is_name.kp T.b_is_name dfl_nil (pal_cons (pel_ix ixl_seq (pel_var (i := 1)) pel_int) pal_nil))))))) (pssl_one (psl_ret pel_bl)) pssl_nil)
  (pssl_cons (psl_set (i := 2) sc_pair_taken.nd (pel_tup (pal_cons (pel_ix ixl_seq (pel_var (i := 1)) pel_int) (pal_cons (pel_ix ixl_seq (pel_var (i := 1)) pel_int) pal_nil))))
  (pssl_cons (psl_if (ptl_not (ptl_truth (pel_call (pk_comes_behind (P := P) (w := w) (base := base) T).2 (hr.mono (by decide)) rfl T.mg_comes_behind T.F_comes_behind.kp T.b_comes_behind dfl_nil (pal_cons (pel_ix ixl_seq (pel_fld T.cl_CircleReader T.na_CircleReader_years_told (pel_var (i := 0))) (pel_un unl_neg pel_int)) (pal_cons (pel_var (i := 2)) pal_nil))))) (pssl_one (psl_ret pel_bl)) pssl_nil)
  (pssl_cons (psl_expr (pel_append (pel_ix ixl_seq (pel_fld T.cl_CircleReader T.na_CircleReader_years_told (pel_var (i := 0))) (pel_un unl_neg pel_int)) (pel_var (i := 2))))
  (pssl_one (psl_ret pel_bl)))))))⟩
def pk_CircleReader___init__ (T : T60 w.params K mg) : {g : F // FnL P w K mg base 1 T.f_CircleReader___init__ T.fd_CircleReader___init__ ["self"] g} := ⟨_, Fun.okL T.F_CircleReader___init__ sc_CircleReader___init__ fun cdv A outer s H E hr =>
(pssl_cons (psl_fld T.cl_CircleReader T.na_CircleReader_last_kind (pel_var (i := 0)) pel_str)
  (pssl_cons (psl_fld T.cl_CircleReader T.na_CircleReader_gap_text (pel_var (i := 0)) pel_str)
  (pssl_cons (psl_fld T.cl_CircleReader T.na_CircleReader_members_told (pel_var (i := 0)) (pel_lstN pal_nil))
  (pssl_cons (psl_fld T.cl_CircleReader T.na_CircleReader_bars_told (pel_var (i := 0)) (pel_lstN pal_nil))
  (pssl_one (psl_fld T.cl_CircleReader T.na_CircleReader_years_told (pel_var (i := 0)) (pel_lstN pal_nil)))))))⟩
def pk_CircleReader_take_head (T : T60 w.params K mg) : {g : F // FnL P w K mg base 2 T.f_CircleReader_take_head T.fd_CircleReader_take_head ["self", "row"] g} := ⟨_, Fun.okL T.F_CircleReader_take_head sc_CircleReader_take_head fun cdv A outer s H E hr =>
(pssl_cons (psl_asg3F (i := 2) (j := 3) (k := 0) rfl T.cl_CircleReader T.na_CircleReader_gap_text (pel_partition (pel_var (i := 1)) pel_str) sc_CircleReader_take_head.nd rfl (by first | exact .inl rfl | exact .inr rfl) rfl (by first | exact .inl rfl | exact .inr rfl) rfl (by first | exact .inl rfl | exact .inr rfl) (by first | exact .inl rfl | exact .inr rfl) (by first | exact .inl rfl | exact .inr rfl) rfl rfl (by decide) (by decide))
  (pssl_one (psl_ret (pel_and (pel_cmp (opl_eq hr.units) (pel_var (i := 2)) pel_str) (pel_and (pel_cmp (opl_eq hr.units) (pel_var (i := 3)) pel_str) (pel_one (pel_call (pk_is_number_text (P := P) (w := w) (base := base) T).2 (hr.mono (by decide)) rfl T.mg_is_number_text T.F_is_number_text.kp T.b_is_number_text dfl_nil (pal_cons (pel_fld T.cl_CircleReader T.na_CircleReader_gap_text (pel_var (i := 0))) pal_nil))))))))⟩
def selK (T : T60 w.params K mg) (z : Str) : Option F := if z = "member" then some (pk_member_taken (P := P) (w := w) (base := base) T).1 else if z = "bar" then some (pk_bar_taken (P := P) (w := w) (base := base) T).1 else if z = "year" then some (pk_year_taken (P := P) (w := w) (base := base) T).1 else if z = "" then some (pk_pair_taken (P := P) (w := w) (base := base) T).1 else none
theorem sels (T : T60 w.params K mg) : Sels P w K mg base 2 2 T.d_ROW (selK (P := P) (w := w) (base := base) T) := ⟨fun z g h => by
  unfold selK at h
  split at h
  · rename_i hz; subst hz; cases h; exact ⟨_, _, _, T.rm, rfl, (pk_member_taken (P := P) (w := w) (base := base) T).2, T.F_member_taken.kp, T.b_member_taken⟩
  · split at h
    · rename_i hz; subst hz; cases h; exact ⟨_, _, _, T.rb, rfl, (pk_bar_taken (P := P) (w := w) (base := base) T).2, T.F_bar_taken.kp, T.b_bar_taken⟩
    · split at h
      · rename_i hz; subst hz; cases h; exact ⟨_, _, _, T.ry, rfl, (pk_year_taken (P := P) (w := w) (base := base) T).2, T.F_year_taken.kp, T.b_year_taken⟩
      · split at h
        · rename_i hz; subst hz; cases h; exact ⟨_, _, _, T.rp, rfl, (pk_pair_taken (P := P) (w := w) (base := base) T).2, T.F_pair_taken.kp, T.b_pair_taken⟩
        · cases h⟩
def pk_CircleReader_take_row (T : T60 w.params K mg) : {g : F // FnL P w K mg base 3 T.f_CircleReader_take_row T.fd_CircleReader_take_row ["self", "row"] g} := ⟨_, Fun.okL T.F_CircleReader_take_row sc_CircleReader_take_row fun cdv A outer s H E hr =>
(pssl_cons (psl_set (i := 2) sc_CircleReader_take_row.nd (pel_split (pel_var (i := 1)) pel_str))
  (pssl_cons (psl_if (ptl_notInKd ⟨T.l_ROW, T.kl_ROW, T.lo_ROW⟩ (hasK_ok T) (pel_ix ixl_seq (pel_var (i := 2)) pel_int) rfl T.mg_ROW_TAKERS) (pssl_one (psl_ret pel_bl)) pssl_nil)
  (pssl_taker (i := 3) (n := 2) T.l_ROW T.kl_ROW (sels (P := P) (w := w) (base := base) T) (hr.mono (by decide)) rfl T.mg_ROW_TAKERS (pel_ix ixl_seq (pel_var (i := 2)) pel_int) (by intro _ _; rfl) (pal_cons (pel_var (i := 0)) (pal_cons (pel_var (i := 2)) pal_nil)) sc_CircleReader_take_row.nd rfl (by first | exact .inl rfl | exact .inr rfl) (by first | exact .inl rfl | exact .inr rfl) (by first | exact .inl rfl | exact .inr rfl) rfl (by decide) (by decide) (by decide) rfl rfl)))⟩
def pk_CircleReader_circle_told (T : T60 w.params K mg) : {g : F // FnL P w K mg base 3 T.f_CircleReader_circle_told T.fd_CircleReader_circle_told ["self"] g} := ⟨_, Fun.okL T.F_CircleReader_circle_told sc_CircleReader_circle_told fun cdv A outer s H E hr =>
(pssl_cons (psl_set (i := 1) sc_CircleReader_circle_told.nd (pel_callTy (cl_tuple) rfl T.n_tuple (by decide +kernel) (pal_cons (pel_toK iter_k (pel_lc (own := [("year", 2)]) rfl sc_CircleReader_circle_told.nd (pil_val (pel_fld T.cl_CircleReader T.na_CircleReader_years_told (pel_var (i := 0)))) (blkOk_by (N := N_CircleReader_circle_told) (sc := defScope s_CircleReader_circle_told) (by decide +kernel)) (fun _ _ _ _ _ => (pgl_name (i := 2) sc_CircleReader_circle_told.nd)) (fun _ _ _ _ _ => ptsl_nil) (fun _ _ _ _ _ => (pel_callTy (cl_tuple) rfl T.n_tuple (by decide +kernel) (pal_cons (pel_var (i := 2)) pal_nil))))) pal_nil)))
  (pssl_one (psl_ret (pel_make (n := 4) T.mk_Circle (pk_Circle___init__ (P := P) (w := w) (base := base) T).2 (gn := mkF T.C_Circle (pk_Circle___init__ (P := P) (w := w) (base := base) T).1) (fun _ _ => .refl _) (hr.mono (by decide)) rfl T.mg_Circle T.b4 dfl_nil (pal_cons (pel_callTy cl_ftuple rfl T.n_tuple (by decide +kernel) (pal_cons (pel_fld T.cl_CircleReader T.na_CircleReader_members_told (pel_var (i := 0))) pal_nil)) (pal_cons (pel_callTy cl_ftuple rfl T.n_tuple (by decide +kernel) (pal_cons (pel_fld T.cl_CircleReader T.na_CircleReader_bars_told (pel_var (i := 0))) pal_nil)) (pal_cons (pel_var (i := 1)) (pal_cons (pel_callTy cl_intS rfl T.n_int (by decide +kernel) (pal_cons (pel_fld T.cl_CircleReader T.na_CircleReader_gap_text (pel_var (i := 0))) pal_nil)) pal_nil))))))))⟩
def pk_read_circle (T : T60 w.params K mg) : {g : F // FnL P w K mg base 5 T.f_read_circle T.fd_read_circle ["text"] g} := ⟨_, Fun.okL T.F_read_circle sc_read_circle fun cdv A outer s H E hr =>
(pssl_cons (psl_if (ptl_not (ptl_truth (pel_isi rfl T.n_isinstance (pel_var (i := 0)) (pe_bltn rfl T.n_str (v := .ty "str") (u := .type "str") (by decide +kernel) rfl) (.ty _) isi_strA))) (pssl_one (psl_raiseE rfl T.mkE_NoText (fe_NoText (P := P) (w := w) (base := base) T) (hr.mono (by decide)) rfl T.mg_NoText T.b_NoText___init__ (pal_cons pel_int pal_nil))) pssl_nil)
  (pssl_cons (psl_set (i := 1) sc_read_circle.nd (pel_make0 T.mk_CircleReader (pk_CircleReader___init__ (P := P) (w := w) (base := base) T).2 (hr.mono (by decide)) rfl T.mg_CircleReader T.b_CircleReader___init__ dfl_nil))
  (pssl_cons (psl_set (i := 2) sc_read_circle.nd (pel_split (pel_var (i := 0)) pel_str))
  (pssl_cons (psl_if (ptl_not (ptl_truth (pel_meth T.cl_CircleReader T.mt_CircleReader_take_head (pk_CircleReader_take_head (P := P) (w := w) (base := base) T).2 (hr.mono (by decide)) T.b_CircleReader_take_head dfl_nil (pel_var (i := 1)) (pal_cons (pel_ix ixl_seq (pel_var (i := 2)) pel_int) pal_nil)))) (pssl_one (psl_raiseE rfl T.mkE_NoText (fe_NoText (P := P) (w := w) (base := base) T) (hr.mono (by decide)) rfl T.mg_NoText T.b_NoText___init__ (pal_cons pel_int pal_nil))) pssl_nil)
  (pssl_cons (psl_toK enumC_k (psl_for (passes_of rfl) rfl (pil_enumC (by decide) (by decide) rfl T.n_enumerate (pal_cons (pel_slice sll_any (pel_var (i := 2)) (pol_some pel_int) pol_none) pal_nil) pel_int) (pgl_tup (n := 2) rfl (pgsl_cons (pgl_name (i := 3) sc_read_circle.nd) (pgsl_cons (pgl_name (i := 4) sc_read_circle.nd) pgsl_nil))) (pssl_one (psl_if (ptl_not (ptl_truth (pel_meth T.cl_CircleReader T.mt_CircleReader_take_row (pk_CircleReader_take_row (P := P) (w := w) (base := base) T).2 (hr.mono (by decide)) T.b_CircleReader_take_row dfl_nil (pel_var (i := 1)) (pal_cons (pel_var (i := 4)) pal_nil)))) (pssl_one (psl_raiseE rfl T.mkE_NoText (fe_NoText (P := P) (w := w) (base := base) T) (hr.mono (by decide)) rfl T.mg_NoText T.b_NoText___init__ (pal_cons (pel_var (i := 3)) pal_nil))) pssl_nil))))
  (pssl_one (psl_ret (pel_meth0 T.cl_CircleReader T.mt_CircleReader_circle_told (pk_CircleReader_circle_told (P := P) (w := w) (base := base) T).2 (hr.mono (by decide)) T.b_CircleReader_circle_told dfl_nil (pel_var (i := 1))))))))))⟩
def pk_may_go_on (T : T60 w.params K mg) : {g : F // FnL P w K mg base 2 T.f_may_go_on T.fd_may_go_on ["pairs", "words"] g} := ⟨_, Fun.okL T.F_may_go_on sc_may_go_on fun cdv A outer s H E hr =>
(pssl_cons (psl_if (PWL.pt (pwl_or (ptl_cmp (opl_ne hr.units) (pel_callB (cl_len) rfl T.n_len (by decide +kernel) (pal_cons (pel_var (i := 1)) pal_nil)) pel_int) (pwl_or (ptl_cmp (opl_ne hr.units) (pel_ix ixl_seq (pel_var (i := 1)) pel_int) pel_str) (pwl_or (ptl_not (ptl_truth (pel_call (pk_is_name (P := P) (w := w) (base := base) T).2 (hr.mono (by decide)) rfl T.mg_is_name T.F_is_name.kp T.b_is_name dfl_nil (pal_cons (pel_ix ixl_seq (pel_var (i := 1)) pel_int) pal_nil)))) (pwl_or1 (ptl_not (ptl_truth (pel_call (pk_is_name (P := P) (w := w) (base := base) T).2 (hr.mono (by decide)) rfl T.mg_is_name T.F_is_name.kp T.b_is_name dfl_nil (pal_cons (pel_ix ixl_seq (pel_var (i := 1)) pel_int) pal_nil))))))))) (pssl_one (psl_ret pel_bl)) pssl_nil)
  (pssl_cons (psl_if (PWL.pt (pwl_or (PWL.pt (pwl_and (ptl_cmp (opl_ne hr.units) (pel_var (i := 0)) (pel_lst pal_nil)) (pwl_and1 (ptl_cmp opl_le2 (pel_ix ixl_seq (pel_var (i := 1)) pel_int) (pel_ix ixl_seq (pel_ix ixl_seq (pel_var (i := 0)) (pel_un unl_neg pel_int)) pel_int))))) (pwl_or1 (ptl_cmp opl_inL (pel_ix ixl_seq (pel_var (i := 1)) pel_int) (pel_toK iter_k (pel_lc (own := [("giver", 2), ("taker", 3)]) rfl sc_may_go_on.nd (pil_val (pel_var (i := 0))) (blkOk_by (N := N_may_go_on) (sc := defScope s_may_go_on) (by decide +kernel)) (fun _ _ _ _ _ => (pgl_tup (n := 2) rfl (pgsl_cons (pgl_name (i := 2) sc_may_go_on.nd) (pgsl_cons (pgl_name (i := 3) sc_may_go_on.nd) pgsl_nil)))) (fun _ _ _ _ _ => ptsl_nil) (fun _ _ _ _ _ => (pel_var (i := 3))))))))) (pssl_one (psl_ret pel_bl)) pssl_nil)
  (pssl_one (psl_ret (pel_callB (cl_all rfl) rfl T.n_all (by decide +kernel) (pal_cons (pel_toK iter_k (pel_lc (own := [("taker", 3)]) rfl sc_may_go_on.nd (pil_val (pel_call (pk_still_to_give (P := P) (w := w) (base := base) T).2 (hr.mono (by decide)) rfl T.mg_still_to_give T.F_still_to_give.kp T.b_still_to_give dfl_nil (pal_cons (pel_op opl_add2 (pel_var (i := 0)) (pel_lst (pal_cons (pel_tup (pal_cons (pel_ix ixl_seq (pel_var (i := 1)) pel_int) (pal_cons (pel_ix ixl_seq (pel_var (i := 1)) pel_int) pal_nil))) pal_nil))) pal_nil))) (blkOk_by (N := N_may_go_on) (sc := defScope s_may_go_on) (by decide +kernel)) (fun _ _ _ _ _ => (pgl_name (i := 3) sc_may_go_on.nd)) (fun _ _ _ _ _ => ptsl_nil) (fun _ _ _ _ _ => (pel_cmp opl_gt2 (pel_var (i := 3)) (pel_ix ixl_seq (pel_var (i := 1)) pel_int))))) pal_nil))))))⟩
def pk_read_drawing (T : T60 w.params K mg) : {g : F // FnL P w K mg base 7 T.f_read_drawing T.fd_read_drawing ["text"] g} := ⟨_, Fun.okL T.F_read_drawing sc_read_drawing fun cdv A outer s H E hr =>
(pssl_cons (psl_if (ptl_not (ptl_truth (pel_isi rfl T.n_isinstance (pel_var (i := 0)) (pe_bltn rfl T.n_str (v := .ty "str") (u := .type "str") (by decide +kernel) rfl) (.ty _) isi_strA))) (pssl_one (psl_raiseE rfl T.mkE_NoText (fe_NoText (P := P) (w := w) (base := base) T) (hr.mono (by decide)) rfl T.mg_NoText T.b_NoText___init__ (pal_cons pel_int pal_nil))) pssl_nil)
  (pssl_cons (psl_set (i := 1) sc_read_drawing.nd (pel_lstN pal_nil))
  (pssl_cons (psl_set (i := 2) sc_read_drawing.nd (pel_ifExp (ptl_cmp (opl_ne hr.units) (pel_var (i := 0)) pel_str) (pel_split (pel_var (i := 0)) pel_str) (pel_lst pal_nil)))
  (pssl_cons (psl_toK enum_k (psl_for (passes_of rfl) rfl (pil_enum rfl T.n_enumerate (pal_cons (pel_var (i := 2)) pal_nil)) (pgl_tup (n := 2) rfl (pgsl_cons (pgl_name (i := 3) sc_read_drawing.nd) (pgsl_cons (pgl_name (i := 4) sc_read_drawing.nd) pgsl_nil))) (pssl_cons (psl_set (i := 5) sc_read_drawing.nd (pel_split (pel_var (i := 4)) pel_str))
  (pssl_cons (psl_if (ptl_not (ptl_truth (pel_call (pk_may_go_on (P := P) (w := w) (base := base) T).2 (hr.mono (by decide)) rfl T.mg_may_go_on T.F_may_go_on.kp T.b_may_go_on dfl_nil (pal_cons (pel_var (i := 1)) (pal_cons (pel_var (i := 5)) pal_nil))))) (pssl_one (psl_raiseE rfl T.mkE_NoText (fe_NoText (P := P) (w := w) (base := base) T) (hr.mono (by decide)) rfl T.mg_NoText T.b_NoText___init__ (pal_cons (pel_var (i := 3)) pal_nil))) pssl_nil)
  (pssl_one (psl_expr (pel_append (pel_var (i := 1)) (pel_tup (pal_cons (pel_ix ixl_seq (pel_var (i := 5)) pel_int) (pal_cons (pel_ix ixl_seq (pel_var (i := 5)) pel_int) pal_nil))))))))))
  (pssl_cons (psl_if (ptl_cmp (opl_ne hr.units) (pel_call (pk_still_to_give (P := P) (w := w) (base := base) T).2 (hr.mono (by decide)) rfl T.mg_still_to_give T.F_still_to_give.kp T.b_still_to_give dfl_nil (pal_cons (pel_var (i := 1)) pal_nil)) (pel_lst pal_nil)) (pssl_one (psl_raiseE rfl T.mkE_NoText (fe_NoText (P := P) (w := w) (base := base) T) (hr.mono (by decide)) rfl T.mg_NoText T.b_NoText___init__ (pal_cons (pel_callB (cl_len) rfl T.n_len (by decide +kernel) (pal_cons (pel_var (i := 2)) pal_nil)) pal_nil))) pssl_nil)
  (pssl_one (psl_ret (pel_make (n := 1) T.mk_Drawing (pk_Drawing___init__ (P := P) (w := w) (base := base) T).2 (gn := mkF T.C_Drawing (pk_Drawing___init__ (P := P) (w := w) (base := base) T).1) (fun _ _ => .refl _) (hr.mono (by decide)) rfl T.mg_Drawing T.b_Drawing___init__ dfl_nil (pal_cons (pel_callTy (cl_tuple) rfl T.n_tuple (by decide +kernel) (pal_cons (pel_var (i := 1)) pal_nil)) pal_nil)))))))))⟩
def pk__law_circles (T : T60 w.params K mg) : {g : F // FnL P w K mg base 1 T.f__law_circles T.fd__law_circles ["_law_word"] g} := ⟨_, Fun.okL T.F__law_circles sc__law_circles fun cdv A outer s H E hr =>
(pssl_cons (psl_set (i := 1) sc__law_circles.nd (pel_lst (pal_cons (pel_tup (pal_cons pel_str (pal_cons pel_int pal_nil))) (pal_cons (pel_tup (pal_cons pel_str (pal_cons pel_int pal_nil))) (pal_cons (pel_tup (pal_cons pel_str (pal_cons pel_int pal_nil))) (pal_cons (pel_tup (pal_cons pel_str (pal_cons pel_int pal_nil))) (pal_cons (pel_tup (pal_cons pel_str (pal_cons pel_int pal_nil))) (pal_cons (pel_tup (pal_cons pel_str (pal_cons pel_int pal_nil))) (pal_cons (pel_tup (pal_cons pel_str (pal_cons pel_int pal_nil))) pal_nil)))))))))
  (pssl_cons (psl_set (i := 1) sc__law_circles.nd (pel_op opl_add2 (pel_var (i := 1)) (pel_lst (pal_cons (pel_tup (pal_cons pel_str (pal_cons pel_int pal_nil))) (pal_cons (pel_tup (pal_cons pel_str (pal_cons pel_int pal_nil))) (pal_cons (pel_tup (pal_cons pel_str (pal_cons pel_int pal_nil))) (pal_cons (pel_tup (pal_cons pel_str (pal_cons pel_int pal_nil))) pal_nil)))))))
  (pssl_cons (psl_set (i := 1) sc__law_circles.nd (pel_op opl_add2 (pel_var (i := 1)) (pel_lst (pal_cons (pel_tup (pal_cons (pel_op opl_add2 (pel_op opl_add2 (pel_op opl_add2 pel_str (pel_var (i := 0))) pel_str) (pel_var (i := 0))) (pal_cons pel_int pal_nil))) (pal_cons (pel_tup (pal_cons (pel_op opl_add2 (pel_op opl_add2 pel_str (pel_var (i := 0))) pel_str) (pal_cons pel_int pal_nil))) pal_nil)))))
  (pssl_cons (psl_set (i := 1) sc__law_circles.nd (pel_op opl_add2 (pel_var (i := 1)) (pel_lst (pal_cons (pel_tup (pal_cons (pel_op opl_add2 (pel_op opl_add2 (pel_op opl_add2 (pel_op opl_add2 pel_str (pel_var (i := 0))) pel_str) (pel_var (i := 0))) pel_str) (pal_cons pel_int pal_nil))) (pal_cons (pel_tup (pal_cons pel_str (pal_cons pel_int pal_nil))) pal_nil)))))
  (pssl_cons (psl_set (i := 1) sc__law_circles.nd (pel_op opl_add2 (pel_var (i := 1)) (pel_lst (pal_cons (pel_tup (pal_cons (pel_op opl_add2 (pel_op opl_add2 (pel_op opl_add2 pel_str (pel_var (i := 0))) pel_str) (pel_var (i := 0))) (pal_cons pel_int pal_nil))) (pal_cons (pel_tup (pal_cons pel_str (pal_cons pel_int pal_nil))) pal_nil)))))
  (pssl_cons (psl_set (i := 1) sc__law_circles.nd (pel_op opl_add2 (pel_var (i := 1)) (pel_lst (pal_cons (pel_tup (pal_cons (pel_op opl_add2 (pel_op opl_add2 pel_str (pel_var (i := 0))) pel_str) (pal_cons pel_int pal_nil))) (pal_cons (pel_tup (pal_cons (pel_op opl_add2 (pel_op opl_add2 pel_str (pel_var (i := 0))) pel_str) (pal_cons pel_int pal_nil))) pal_nil)))))
  (pssl_cons (psl_set (i := 1) sc__law_circles.nd (pel_op opl_add2 (pel_var (i := 1)) (pel_lst (pal_cons (pel_tup (pal_cons (pel_op opl_add2 (pel_op opl_add2 (pel_op opl_add2 (pel_op opl_add2 pel_str (pel_var (i := 0))) pel_str) (pel_var (i := 0))) pel_str) (pal_cons pel_int pal_nil))) (pal_cons (pel_tup (pal_cons pel_str (pal_cons pel_int pal_nil))) pal_nil)))))
  (pssl_one (psl_ret (pel_op opl_add2 (pel_var (i := 1)) (pel_lst (pal_cons (pel_tup (pal_cons (pel_op opl_add2 (pel_op opl_add2 (pel_op opl_add2 pel_str (pel_var (i := 0))) pel_str) (pel_var (i := 0))) (pal_cons pel_int pal_nil))) (pal_cons (pel_tup (pal_cons (pel_op opl_add2 (pel_op opl_add2 pel_str (pel_var (i := 0))) (pel_op opl_mulS pel_str pel_int)) (pal_cons pel_int pal_nil))) pal_nil)))))))))))))⟩
def pk__law_drawings (T : T60 w.params K mg) : {g : F // FnL P w K mg base 1 T.f__law_drawings T.fd__law_drawings ["_law_word"] g} := ⟨_, Fun.okL T.F__law_drawings sc__law_drawings fun cdv A outer s H E hr =>
(pssl_cons (psl_set (i := 1) sc__law_drawings.nd (pel_lst (pal_cons (pel_tup (pal_cons pel_str (pal_cons pel_int pal_nil))) (pal_cons (pel_tup (pal_cons pel_str (pal_cons pel_int pal_nil))) (pal_cons (pel_tup (pal_cons (pel_var (i := 0)) (pal_cons pel_int pal_nil))) (pal_cons (pel_tup (pal_cons (pel_op opl_add2 (pel_var (i := 0)) pel_str) (pal_cons pel_int pal_nil))) (pal_cons (pel_tup (pal_cons (pel_op opl_add2 (pel_op opl_add2 (pel_op opl_add2 (pel_var (i := 0)) pel_str) (pel_var (i := 0))) pel_str) (pal_cons pel_int pal_nil))) (pal_cons (pel_tup (pal_cons pel_str (pal_cons pel_int pal_nil))) pal_nil))))))))
  (pssl_cons (psl_set (i := 1) sc__law_drawings.nd (pel_op opl_add2 (pel_var (i := 1)) (pel_lst (pal_cons (pel_tup (pal_cons (pel_op opl_add2 (pel_var (i := 0)) pel_str) (pal_cons pel_int pal_nil))) (pal_cons (pel_tup (pal_cons pel_str (pal_cons pel_int pal_nil))) (pal_cons (pel_tup (pal_cons (pel_op opl_add2 (pel_op opl_add2 (pel_var (i := 0)) pel_str) (pel_var (i := 0))) (pal_cons pel_int pal_nil))) (pal_cons (pel_tup (pal_cons (pel_op opl_add2 (pel_op opl_add2 (pel_op opl_add2 (pel_var (i := 0)) pel_str) (pel_var (i := 0))) pel_str) (pal_cons pel_int pal_nil))) pal_nil)))))))
  (pssl_cons (psl_set (i := 1) sc__law_drawings.nd (pel_op opl_add2 (pel_var (i := 1)) (pel_lst (pal_cons (pel_tup (pal_cons pel_str (pal_cons pel_int pal_nil))) (pal_cons (pel_tup (pal_cons pel_str (pal_cons pel_int pal_nil))) (pal_cons (pel_tup (pal_cons pel_str (pal_cons pel_int pal_nil))) (pal_cons (pel_tup (pal_cons pel_str (pal_cons pel_int pal_nil))) pal_nil)))))))
  (pssl_one (psl_ret (pel_op opl_add2 (pel_var (i := 1)) (pel_lst (pal_cons (pel_tup (pal_cons pel_str (pal_cons pel_int pal_nil))) (pal_cons (pel_tup (pal_cons pel_str (pal_cons pel_int pal_nil))) (pal_cons (pel_tup (pal_cons (pel_op opl_add2 (pel_op opl_add2 (pel_op opl_add2 pel_str (pel_var (i := 0))) pel_str) (pel_var (i := 0))) (pal_cons pel_int pal_nil))) pal_nil))))))))))⟩
end
end K60
namespace K60
open PySem PySem.Spec PyProof.Rows L2 MP
theorem seq_ex {l1 l2 : LS} {ρ ρ' : Ev} {S S1 : Sto} {C : Addr} {fs : List (Str × D)} (h : l1 ρ S = .ok (.ex C fs ρ') S1) : lSeq l1 l2 ρ S = .ok (.ex C fs ρ') S1 := by
  unfold lSeq; rw [h]; rfl
theorem body_ex {n : Nat} {lb : LS} {ds : List D} {ρ : Ev} {S S' : Sto} {C : Addr} {fs : List (Str × D)} (h : lb (ds.map some ++ List.replicate (n - ds.length) none) S = .ok (.ex C fs ρ) S') : bodyF n lb ds S = .exc C fs S' := by
  unfold bodyF; rw [h]; rfl
theorem raise_ok {C : Addr} {fs : List Str} {t : LA} {ρ : Ev} {S S1 : Sto} {ds : List D} (h : t ρ S = .ok ds S1) (hl : ds.length = fs.length) : lRaiseE C fs t ρ S = .ok (.ex C (fs.zip ds).reverse ρ) S1 := by
  unfold lRaiseE; rw [h]; show (if ds.length = fs.length then R.ok (Fl.ex C (fs.zip ds).reverse ρ) S1 else R.bad) = _; rw [if_pos hl]
theorem not_tt {t : LT} {ρ : Ev} {S S1 : Sto} (h : t ρ S = .ok false S1) : MP.tNot t ρ S = .ok true S1 := not_ok h
theorem call_ex {n : Nat} {g : F} {dd ds : List D} {t : LA} {ρ : Ev} {S S1 S2 : Sto} {C : Addr} {fs : List (Str × D)} (h : t ρ S = .ok ds S1) (hl : ds.length + dd.length = n) (h2 : g (ds ++ dd) S1 = .exc C fs S2) : lCall n g dd t ρ S = .exc C fs S2 := call_ok h hl h2
theorem len_lst {S : Sto} {xs : List D} : gLen S [.lst xs] = some (.int (xs.length : Int)) := rfl
theorem expr_ex {l : LE} {ρ : Ev} {S S1 : Sto} {C : Addr} {fs : List (Str × D)} (h : l ρ S = .exc C fs S1) : lExpr l ρ S = .ok (.ex C fs ρ) S1 := by
  unfold lExpr; rw [h]; rfl
section
variable {P : Program} {w : World} {K : PySem.W.Frag} {mg : Str → Option Value} {base : Heap}
def SRow (C : Addr) (rc rd g : F) : Prop := ∀ (d : D) (S S1 : Sto),
  (∀ r : Int, rc [d] S = .exc C [("row", .int r)] S1 → g [d, .int 0] S = .ok (.int r) S1) ∧ (∀ d' : D, rc [d] S = .ok d' S1 → g [d, .int 0] S = .ok (.int (-1)) S1) ∧
  (∀ r : Int, rd [d] S = .exc C [("row", .int r)] S1 → g [d, .int 1] S = .ok (.int r) S1) ∧ (∀ d' : D, rd [d] S = .ok d' S1 → g [d, .int 1] S = .ok (.int (-1)) S1)
theorem ok_row0 (T : T60 w.params K mg) : ∃ g, FnL P w K mg base 8 T.f__law_row_of T.fd__law_row_of ["_law_thing", "_law_way"] g ∧ SRow T.C_NoText (pk_read_circle (P := P) (w := w) (base := base) T).1 (pk_read_drawing (P := P) (w := w) (base := base) T).1 g := by
  have Fn_read_circle := (pk_read_circle (P := P) (w := w) (base := base) T).2
  have Fn_read_drawing := (pk_read_drawing (P := P) (w := w) (base := base) T).2
  generalize (pk_read_circle (P := P) (w := w) (base := base) T).1 = rc at Fn_read_circle ⊢
  generalize (pk_read_drawing (P := P) (w := w) (base := base) T).1 = rd at Fn_read_drawing ⊢
  refine ⟨_, Fun.okL T.F__law_row_of sc__law_row_of fun cdv A outer s H E hr =>
(pssl_cons (psl_set (i := 2) sc__law_row_of.nd (pel_un unl_neg pel_int))
  (pssl_cons (psl_tryA (i := 4) rfl rfl sc__law_row_of.nd rfl rfl ⟨rfl, by decide, .inl T.mg_LotError⟩ rfl (tab := fun C => PySem.W.exmOne K (.ref C) (.ref T.C_LotError)) (fun _ _ h => h) (fun _ _ _ => (pssl_one (psl_if (ptl_cmp (opl_eq hr.units) (pel_var (i := 1)) pel_int) (pssl_one (psl_expr (pel_call Fn_read_circle (hr.mono (by decide)) rfl T.mg_read_circle T.F_read_circle.kp T.b_read_circle dfl_nil (pal_cons (pel_var (i := 0)) pal_nil)))) (pssl_one (psl_expr (pel_call Fn_read_drawing (hr.mono (by decide)) rfl T.mg_read_drawing T.F_read_drawing.kp T.b_read_drawing dfl_nil (pal_cons (pel_var (i := 0)) pal_nil))))))) (fun _ _ => (pssl_cons (psl_set (i := 3) sc__law_row_of.nd (pel_isT (Cs := [T.C_NoDrawing, T.C_NoMember, T.C_NoNumber, T.C_NoRow, T.C_NoYear]) rfl T.n_isinstance (pel_var (i := 4)) (pa_cons (pe_glob rfl T.mg_NoDrawing (v := .ref T.C_NoDrawing) rfl) (pa_cons (pe_glob rfl T.mg_NoMember (v := .ref T.C_NoMember) rfl) (pa_cons (pe_glob rfl T.mg_NoNumber (v := .ref T.C_NoNumber) rfl) (pa_cons (pe_glob rfl T.mg_NoRow (v := .ref T.C_NoRow) rfl) (pa_cons (pe_glob rfl T.mg_NoYear (v := .ref T.C_NoYear) rfl) pa_nil))))) (fun _ _ _ q => q) (by simp) (tabT_ok K _)))
  (pssl_one (psl_set (i := 2) sc__law_row_of.nd (pel_ifExp (PWL.pt (pwl_and (ptl_truth (pel_isE rfl T.n_isinstance (pel_var (i := 4)) (pe_glob rfl T.mg_NoText (v := .ref T.C_NoText) rfl) (.own _) (tabE_ok K _))) (pwl_and (ptl_truth (pel_isE rfl T.n_isinstance (pel_var (i := 4)) (pe_bltn rfl T.n_ValueError (v := .ty "ValueError") (u := .type "ValueError") (by decide +kernel) rfl) (.ty _) (tabE_ok K _))) (pwl_and1 (ptl_not (ptl_truth (pel_var (i := 3)))))))) (pel_fldE (Cs := [T.C_NoText]) (fun C h => by rw [List.mem_singleton.mp h]; exact ⟨T.xf_NoText, T.no_NoText_row⟩) (pel_var (i := 4))) (pel_un unl_neg pel_int)))))))
  (pssl_one (psl_ret (pel_var (i := 2)))))), ?_⟩
  intro d S S1
  refine ⟨fun r h => ?_, fun d' h => ?_, fun r h => ?_, fun d' h => ?_⟩
  · refine body_rt (seq_nx (set_ok rfl) (seq_nx (trya_ex (C := T.C_NoText) (fs := [("row", .int r)]) (if_tt (tru_b (bin_ok rfl rfl eq_ii) rfl) (expr_ex (call_ex (acons_ok rfl rfl) rfl h))) T.xm_NoText (seq_nx (set_ok (ist_ok T.ec_NoText T.ka_a rfl)) (set_ok (ife_tt (and_tt (tru_b (ise_ok T.ec_NoText T.ko_NoText_NoText rfl) rfl) (and_tt (tru_b (ise_ok T.ec_NoText T.ko_NoText_ValueError rfl) rfl) (not_tt (tru_b rfl rfl)))) (flde_ok rfl (by simp) rfl))))) (ret_ok rfl)))
  · exact body_rt (seq_nx (set_ok rfl) (seq_nx (trya_nx (if_tt (tru_b (bin_ok rfl rfl eq_ii) rfl) (expr_ok (call_ok (acons_ok rfl rfl) rfl h)))) (ret_ok rfl)))
  · refine body_rt (seq_nx (set_ok rfl) (seq_nx (trya_ex (C := T.C_NoText) (fs := [("row", .int r)]) (if_ff (tru_b (bin_ok rfl rfl eq_ii) rfl) (expr_ex (call_ex (acons_ok rfl rfl) rfl h))) T.xm_NoText (seq_nx (set_ok (ist_ok T.ec_NoText T.ka_a rfl)) (set_ok (ife_tt (and_tt (tru_b (ise_ok T.ec_NoText T.ko_NoText_NoText rfl) rfl) (and_tt (tru_b (ise_ok T.ec_NoText T.ko_NoText_ValueError rfl) rfl) (not_tt (tru_b rfl rfl)))) (flde_ok rfl (by simp) rfl))))) (ret_ok rfl)))
  · exact body_rt (seq_nx (set_ok rfl) (seq_nx (trya_nx (if_ff (tru_b (bin_ok rfl rfl eq_ii) rfl) (expr_ok (call_ok (acons_ok rfl rfl) rfl h)))) (ret_ok rfl)))
/-- what the readers tell of a thing that holds nothing of the store: the row; -1 where it is read -/
def Tells (C : Addr) (rc : F) (d : D) (r : Int) : Prop := ∃ S1, rc [d] [] = .exc C [("row", .int r)] S1 ∨ (r = -1 ∧ ∃ d', rc [d] [] = .ok d' S1)
def SRowC (C : Addr) (rc rd g : F) : Prop := ∀ (d : D) (S : Sto) (r : Int), below 0 d = true → (Tells C rc d r → g [d, .int 0] S = .ok (.int r) S) ∧ (Tells C rd d r → g [d, .int 1] S = .ok (.int r) S)
theorem ok_row (T : T60 w.params K mg) : ∃ g, FnL P w K mg base 8 T.f__law_row_of T.fd__law_row_of ["_law_thing", "_law_way"] g ∧ SRowC T.C_NoText (pk_read_circle (P := P) (w := w) (base := base) T).1 (pk_read_drawing (P := P) (w := w) (base := base) T).1 g := by
  obtain ⟨g, Fn, Sr⟩ := ok_row0 (P := P) (w := w) (base := base) T
  refine ⟨clF g, Fn.cl, fun d S r hb => ⟨fun ⟨S1, h⟩ => ?_, fun ⟨S1, h⟩ => ?_⟩⟩
  · have hb2 : belows 0 [d, .int 0] = true := by simp [belows, hb, below]
    rcases h with h | ⟨rfl, d', h⟩
    · exact clF_ok hb2 ((Sr d [] S1).1 r h) rfl
    · exact clF_ok hb2 ((Sr d [] S1).2.1 d' h) rfl
  · have hb2 : belows 0 [d, .int 1] = true := by simp [belows, hb, below]
    rcases h with h | ⟨rfl, d', h⟩
    · exact clF_ok hb2 ((Sr d [] S1).2.2.1 r h) rfl
    · exact clF_ok hb2 ((Sr d [] S1).2.2.2 d' h) rfl
end
end K60

namespace K60
open PySem PySem.Spec PyProof.Rows L2 MP TL
/-! ### what is no text; numbers of more than thirty figures -/
theorem isi_ok {tab : Tab} {l : LE} {ρ : Ev} {S S1 : Sto} {d e : D} (h : l ρ S = .ok d S1) (h2 : gIsi tab S1 d = some e) : lIsi tab l ρ S = .ok e S1 := by
  unfold lIsi; rw [h]; show lift1 (gIsi tab S1 d) S1 = _; rw [h2]; rfl
theorem st0 {C : Addr} {f : Str} {S : Sto} {fs : List (Str × D)} {d : D} (h : fs.length < 1000) : stFld C f (.ins C fs :: S) (.ref 0) d = some (.ins C (putD f d fs) :: S) := by
  show (if C = C ∧ fs.length < 1000 then some ((O.ins C fs :: S).set 0 (.ins C (putD f d fs))) else none) = _
  rw [if_pos ⟨rfl, h⟩]
  rfl
theorem asg3_ok {i j k r : Nat} {C : Addr} {f : Str} {le : LE} {ρ : Ev} {S S1 S2 : Sto} {a b c : D} (h : le ρ S = .ok (.tup [a, b, c]) S1) (hk : ρ[k]? = some (some (.ref r))) (hne : i ≠ k ∧ j ≠ k) (hs : stFld C f S1 (.ref r) c = some S2) : lAsg3F i j k C f le ρ S = .ok (.nx ((ρ.set i (some a)).set j (some b))) S2 := by
  unfold lAsg3F
  rw [h]
  show (match ρ[k]? with
    | some (some (.ref r)) => if i ≠ k ∧ j ≠ k then liftS (stFld C f S1 (.ref r) c) ((ρ.set i (some a)).set j (some b)) else .bad
    | _ => .bad) = _
  rw [hk]
  dsimp only
  rw [if_pos hne, hs]
  rfl
/-- the text "circle " and what follows -/
theorem part_c {z : Str} : Txt.partition ("circle " ++ z) " " = (("circle" : Str), (" " : Str), z) := by
  have e1 : ("circle " : Str) ++ z = SX.S ([99, 105, 114, 99, 108, 101] ++ ([32] ++ tl z)) := ext_tl (by rw [tl_append]; rfl)
  have e2 : (" " : Str) = SX.S [32] := by decide
  rw [e1, e2, SX.partition_some (by decide) (SX.par_head (sep := []) (tl z) (by decide))]
  have e3 : SX.S (tl z) = z := mk_tl z
  rw [e3]
  rfl
theorem split_c {z : Str} (h : 10 ∉ tl z) : Txt.split ("circle " ++ z) "\n" = ["circle " ++ z] := by
  have e1 : ("circle " : Str) ++ z = SX.S ([99, 105, 114, 99, 108, 101, 32] ++ tl z) := ext_tl (by rw [tl_append]; rfl)
  have e2 : ("\n" : Str) = SX.S [10] := by decide
  have hn : 10 ∉ ([99, 105, 114, 99, 108, 101, 32] ++ tl z : List Nat) := by
    rw [List.mem_append]
    rintro (q | q)
    · revert q; decide
    · exact h q
  rw [e1, e2, SX.split_S (by decide) (by decide)]
  have := SX.spl_join (c := 10) (sep := []) (parts := [[99, 105, 114, 99, 108, 101, 32] ++ tl z]) (by simp) (by intro p hp; rw [List.mem_singleton.mp hp]; exact hn)
  have e4 : joinL [10] [[99, 105, 114, 99, 108, 101, 32] ++ tl z] = [99, 105, 114, 99, 108, 101, 32] ++ tl z := by simp [joinL]
  rw [e4] at this
  rw [this]
  rfl
section
variable {P : Program} {w : World} {K : PySem.W.Frag} {mg : Str → Option Value} {base : Heap}
theorem rc_thing (T : T60 w.params K mg) {d : D} (h : gIsi tabStrA [] d = some (.bl false)) : Tells T.C_NoText (pk_read_circle (P := P) (w := w) (base := base) T).1 d 0 :=
  ⟨[], .inl (body_ex (seq_ex (if_tt (not_tt (tru_b (isi_ok rfl h) rfl)) (raise_ok (acons_ok rfl rfl) rfl))))⟩
theorem rd_thing (T : T60 w.params K mg) {d : D} (h : gIsi tabStrA [] d = some (.bl false)) : Tells T.C_NoText (pk_read_drawing (P := P) (w := w) (base := base) T).1 d 0 :=
  ⟨[], .inl (body_ex (seq_ex (if_tt (not_tt (tru_b (isi_ok rfl h) rfl)) (raise_ok (acons_ok rfl rfl) rfl))))⟩
theorem num_long (T : T60 w.params K mg) {z : Str} {S : Sto} (h : 30 < z.length) (h2 : z.length ≤ 100000) : (pk_is_number_text (P := P) (w := w) (base := base) T).1 [.str z] S = .ok (.bl false) S := by
  have hl : gLen S [.str z] = some (.int (z.length : Int)) := by
    show (if z.length ≤ sizeLine then some (D.int (z.length : Int)) else none) = _
    rw [if_pos (Nat.le_trans h2 (by decide))]
  exact body_rt (seq_rt (if_tt (or_tt (not_tt (tru_b (chain_tt rfl (callb_ok (acons_ok rfl rfl) hl) (show gLe2 S (.int 1) (.int (z.length : Int)) = some (.bl true) by show some (D.bl (decide ((1 : Int) ≤ z.length))) = _; rw [decide_eq_true (by omega)]) rfl (show gLe2 S (.int (z.length : Int)) (.int 30) = some (.bl (decide ((z.length : Int) ≤ 30))) from rfl)) (decide_eq_false (by omega))))) (ret_ok rfl)))
def CrO (C : Addr) (gap : Str) : Sto := [.ins C [("last_kind", .str "member"), ("gap_text", .str gap), ("members_told", .ref 1), ("bars_told", .ref 2), ("years_told", .ref 3)], .lst [], .lst [], .lst []]
theorem cr_new (T : T60 w.params K mg) : mkF T.C_CircleReader (pk_CircleReader___init__ (P := P) (w := w) (base := base) T).1 [] [] = .ok (.ref 0) (CrO T.C_CircleReader "") := by
  have h : (pk_CircleReader___init__ (P := P) (w := w) (base := base) T).1 [.ref 0] [.ins T.C_CircleReader []] = .ok .non (CrO T.C_CircleReader "") :=
    body_nx (seq_nx (stF_ok rfl rfl (st0 (of_decide_eq_true rfl))) (seq_nx (stF_ok rfl rfl (st0 (of_decide_eq_true rfl))) (seq_nx (stF_ok rfl rfl (st0 (of_decide_eq_true rfl))) (seq_nx (stF_ok rfl rfl (st0 (of_decide_eq_true rfl))) (stF_ok rfl rfl (st0 (of_decide_eq_true rfl)))))))
  unfold mkF
  show ((pk_CircleReader___init__ (P := P) (w := w) (base := base) T).1 [.ref 0] [.ins T.C_CircleReader []]).bind _ = _
  rw [h]
  rfl
theorem head_long (T : T60 w.params K mg) {z : Str} (h : 30 < z.length) (h2 : z.length ≤ 100000) : (pk_CircleReader_take_head (P := P) (w := w) (base := base) T).1 [.ref 0, .str ("circle " ++ z)] (CrO T.C_CircleReader "") = .ok (.bl false) (CrO T.C_CircleReader z) := by
  have hp : stPart (CrO T.C_CircleReader "") (.str ("circle " ++ z)) [.str " "] = some (.tup [.str "circle", .str " ", .str z], CrO T.C_CircleReader "") := by
    show (if ((" " : Str).length == 0) = false ∧ (("circle " : Str) ++ z).length ≤ sizeLine then _ else none) = _
    rw [if_pos ⟨by decide, by
      have : (("circle " : Str) ++ z).length = 7 + z.length := by rw [len_tl, tl_append, List.length_append, ← len_tl, ← len_tl]; rfl
      rw [this, sizeLine_eq]; omega⟩, part_c]
  refine body_rt (seq_nx (asg3_ok (bm_ok rfl rfl (acons_ok rfl rfl) hp) rfl (by decide) (st0 (of_decide_eq_true rfl))) (ret_ok (andv_tt (d := .bl true) (bin_ok rfl rfl ?_) rfl (andv_tt (d := .bl true) (bin_ok rfl rfl ?_) rfl (call_ok (acons_ok (fld_ok rfl ?_) rfl) rfl (num_long T h h2))))))
  · rfl
  · rfl
  · show (if T.C_CircleReader = T.C_CircleReader then _ else none) = _
    rw [if_pos rfl]
    rfl
theorem rc_long (T : T60 w.params K mg) {z : Str} (h : 30 < z.length) (h2 : z.length ≤ 90000) (hn : 10 ∉ tl z) : Tells T.C_NoText (pk_read_circle (P := P) (w := w) (base := base) T).1 (.str ("circle " ++ z)) 0 := by
  have hs : stSplit (CrO T.C_CircleReader "") (.str ("circle " ++ z)) [.str "\n"] = some (.lst [.str ("circle " ++ z)], CrO T.C_CircleReader "") := by
    show (if (("\n" : Str).length == 0) = false ∧ (("circle " : Str) ++ z).length + 2 ≤ sizeLine then _ else none) = _
    rw [if_pos ⟨by decide, by
      have : (("circle " : Str) ++ z).length = 7 + z.length := by rw [len_tl, tl_append, List.length_append, ← len_tl, ← len_tl]; rfl
      rw [this, sizeLine_eq]; omega⟩, split_c hn]
    rfl
  refine ⟨CrO T.C_CircleReader z, .inl (body_ex (seq_nx (if_ff (not_ok (b := true) (tru_b (isi_ok rfl rfl) rfl)) rfl) (seq_nx (set_ok (call_ok rfl rfl (cr_new T))) (seq_nx (set_ok (bm_ok rfl rfl (acons_ok rfl rfl) hs)) (seq_ex (if_tt (not_tt (tru_b (meth_ok rfl ?_ (acons_ok (bin_ok rfl rfl rfl) rfl) rfl (head_long T h (by omega))) rfl)) (raise_ok (acons_ok rfl rfl) rfl)))))))⟩
  show (decide (T.C_CircleReader = T.C_CircleReader) && _) = true
  rw [decide_eq_true rfl]
  rfl
end
end K60

namespace K60
open PySem PySem.Spec PyProof.Rows L2 MP TL
/-! ### the draws -/
def PotAt (j : Nat) (n : Int) (S : Sto) : Prop := ∃ dig seed cnt : Int, S[j]? = some (.lst [.int dig, .int seed, .int cnt]) ∧ 0 ≤ seed ∧ seed < 10 ^ 30 ∧ 0 ≤ cnt ∧ cnt ≤ n
def Keep (j : Nat) (S S' : Sto) : Prop := S.length ≤ S'.length ∧ ∀ k, k ≠ j → k < S.length → S'[k]? = S[k]?
theorem Keep.refl {j : Nat} {S : Sto} : Keep j S S := ⟨Nat.le_refl _, fun _ _ _ => rfl⟩
theorem Keep.trans {j : Nat} {S S1 S2 : Sto} (h1 : Keep j S S1) (h2 : Keep j S1 S2) : Keep j S S2 := ⟨Nat.le_trans h1.1 h2.1, fun k hk hl => (h2.2 k hk (Nat.lt_of_lt_of_le hl h1.1)).trans (h1.2 k hk hl)⟩
theorem Keep.get {j i : Nat} {S S' : Sto} {o : O} (h : Keep j S S') (hi : S[i]? = some o) (hj : i ≠ j) : S'[i]? = some o := by
  rw [h.2 i hj (List.getElem?_eq_some_iff.mp hi).1]; exact hi
theorem Keep.set {j : Nat} {S : Sto} {o : O} : Keep j S (S.set j o) := ⟨by simp, fun k hk _ => List.getElem?_set_ne (Ne.symm hk)⟩
theorem Keep.push {j : Nat} {S : Sto} {o : O} : Keep j S (S ++ [o]) := ⟨by simp, fun k _ hl => List.getElem?_append_left hl⟩
theorem PotAt.mono {j : Nat} {n m : Int} {S : Sto} (h : PotAt j n S) (hm : n ≤ m) : PotAt j m S := by
  obtain ⟨a, b, c, h1, h2, h3, h4, h5⟩ := h
  exact ⟨a, b, c, h1, h2, h3, h4, by omega⟩
theorem PotAt.lt {j : Nat} {n : Int} {S : Sto} (h : PotAt j n S) : j < S.length := by
  obtain ⟨a, b, c, h1, _⟩ := h
  exact (List.getElem?_eq_some_iff.mp h1).1
theorem PotAt.push {j : Nat} {n : Int} {S : Sto} {o : O} (h : PotAt j n S) : PotAt j n (S ++ [o]) := by
  have hl := h.lt
  obtain ⟨a, b, c, h1, h2⟩ := h
  exact ⟨a, b, c, by rw [List.getElem?_append_left hl]; exact h1, h2⟩
theorem PotAt.set {j i : Nat} {n : Int} {S : Sto} {o : O} (h : PotAt j n S) (hi : i ≠ j) : PotAt j n (S.set i o) := by
  obtain ⟨a, b, c, h1, h2⟩ := h
  exact ⟨a, b, c, by rw [List.getElem?_set_ne hi]; exact h1, h2⟩
def SPot (g : F) : Prop := ∀ (S : Sto) (ns : List Int) (k : Int), ns.length ≤ 63 → 0 ≤ k → k ≤ 7 → ∃ S', g [.lst (ns.map D.int), .int k] S = .ok (.ref S.length) S' ∧ PotAt S.length 0 S' ∧ S'.length = S.length + 1 ∧ S'.take S.length = S
def SPick (g : F) : Prop := ∀ (n : Int) (S : Sto) (j : Nat) (wd : Int), PotAt j n S → n < 10 ^ 29 → 0 < wd → wd < 10 ^ 6 → ∃ v S', g [.ref j, .int wd] S = .ok (.int v) S' ∧ 0 ≤ v ∧ v < wd ∧ PotAt j (n + 1) S' ∧ Keep j S S'
def SOf (g : F) : Prop := ∀ (n : Int) (S : Sto) (j : Nat) (d : D) (l : Int) (Q : D → Prop), PotAt j n S → n < 10 ^ 29 → gLen S [d] = some (.int l) → 0 < l → l < 10 ^ 6 → (∀ S' v, Keep j S S' → 0 ≤ v → v < l → ∃ y, gIx S' d (.int v) = some y ∧ Q y) → ∃ y S', g [.ref j, d] S = .ok y S' ∧ Q y ∧ PotAt j (n + 1) S' ∧ Keep j S S'
section
variable {P : Program} {w : World} {K : PySem.W.Frag} {mg : Str → Option Value} {base : Heap}
theorem ok_pot (T : T60 w.params K mg) : ∃ g, FnL P w K mg base 1 T.f__law_pot T.fd__law_pot ["_law_script", "_law_k"] g ∧ SPot g := by
  refine ⟨_, Fun.okL T.F__law_pot sc__law_pot fun cdv A outer s H E hr =>
(pssl_cons (psl_set (i := 2) sc__law_pot.nd (pel_ifExp (ptl_cmp opl_gt2 (pel_callB (cl_len) rfl T.n_len (by decide +kernel) (pal_cons (pel_var (i := 0)) pal_nil)) pel_int) (pel_ix ixl_seq (pel_var (i := 0)) (pel_op opl_mod (pel_var (i := 1)) (pel_callB (cl_len) rfl T.n_len (by decide +kernel) (pal_cons (pel_var (i := 0)) pal_nil)))) pel_int))
  (pssl_cons (psl_set (i := 3) sc__law_pot.nd (pel_op opl_mod (pel_op opl_mul (pel_op opl_add2 (pel_op opl_add2 (pel_op opl_mod (pel_var (i := 2)) (pel_op opl_pow pel_int pel_int)) (pel_op opl_mul (pel_op opl_mul pel_int (pel_var (i := 1))) (pel_var (i := 1)))) pel_int) pel_int) pel_int))
  (pssl_one (psl_ret (pel_lstN (pal_cons (pel_op opl_mul (pel_op opl_mod (pel_var (i := 2)) (pel_op opl_powB (pel_op opl_pow pel_int pel_int) pel_int)) (pel_callTy (cl_int1) rfl T.n_int (by decide +kernel) (pal_cons (pel_cmp opl_geI (pel_var (i := 2)) (pel_op opl_pow pel_int pel_int)) pal_nil))) (pal_cons (pel_var (i := 3)) (pal_cons pel_int pal_nil)))))))), ?_⟩
  intro S ns k hn k0 k1
  have bb : (10 : Int) ^ 30 < 10 ^ 100 ∧ (10 : Int) ^ 100 ≤ 10 ^ 250 ∧ (2305843009213693951 : Int) < 10 ^ 30 ∧ (7919 : Int) * 7 * 7 + 11 < 10 ^ 30 ∧ (7919 : Int) * 7 < 10 ^ 30 ∧ (1000 : Int) < 10 ^ 30 := by decide +kernel
  obtain ⟨bb1, bb2, bb3, bb4, bb5, bb6⟩ := bb
  -- the cell
  have hcell : ∃ c : Int, lIf (tTru (lBin gGt2 (lCallB gLen (aCons (lVar 0) aNil)) (lC (.int 0)))) (lBin gIx (lVar 0) (lBin gMod (lVar 1) (lCallB gLen (aCons (lVar 0) aNil)))) (lC (.int 0)) [some (.lst (ns.map D.int)), some (.int k), none, none] S = .ok (.int c) S := by
    have hl : lCallB gLen (aCons (lVar 0) aNil) [some (.lst (ns.map D.int)), some (.int k), none, none] S = .ok (.int (ns.length : Int)) S := callb_ok (acons_ok rfl rfl) (len_lst.trans (by rw [List.length_map]))
    by_cases h : 0 < ns.length
    · have hm0 := Int.emod_nonneg k (b := (ns.length : Int)) (by omega)
      have hm1 := Int.emod_lt_of_pos k (b := (ns.length : Int)) (by omega)
      have hv : (k % (ns.length : Int)).toNat < ns.length := by omega
      refine ⟨ns[(k % (ns.length : Int)).toNat], ife_tt (tru_b (bin_ok hl rfl rfl) (decide_eq_true (by omega))) (bin_ok rfl (bin_ok rfl hl (mod_ii (by omega))) ?_)⟩
      show atI (ns.map D.int) (k % (ns.length : Int)) = _
      unfold atI ixN
      rw [List.length_map, if_pos hm0, if_pos hm1]
      show (ns.map D.int)[(k % (ns.length : Int)).toNat]? = _
      rw [List.getElem?_map, List.getElem?_eq_getElem hv]
      rfl
    · exact ⟨0, ife_ff (tru_b (bin_ok hl rfl rfl) (decide_eq_false (by omega))) rfl⟩
  obtain ⟨c, hc⟩ := hcell
  have smk : Sm k := sml k0 (by omega)
  have kk : 0 ≤ 7919 * k * k ∧ 7919 * k * k ≤ 7919 * 7 * 7 := ⟨Int.mul_nonneg (by omega) k0, Int.le_trans (Int.mul_le_mul_of_nonneg_right (show 7919 * k ≤ 7919 * 7 by omega) k0) (by omega)⟩
  have c0 := Int.emod_nonneg c (b := (10 : Int) ^ (30 : Int).toNat) (by decide +kernel)
  have c1 : c % (10 : Int) ^ (30 : Int).toNat < 10 ^ 30 := Int.emod_lt_of_pos c (b := (10 : Int) ^ (30 : Int).toNat) (by decide +kernel)
  have b31 : (10 : Int) ^ 30 + 10 ^ 30 < 10 ^ 100 := by decide +kernel
  have g1 := set_ok (i := 3) (S := S) (ρ := [some (.lst (ns.map D.int)), some (.int k), some (.int c), none]) (bin_ok (bin_ok (bin_ok (bin_ok (bin_ok (la := lVar 2) rfl (bin_ok (la := lC (.int 10)) (lb := lC (.int 30)) rfl rfl (pow_ii ⟨by decide, by decide, by decide⟩)) (mod_ii (by decide +kernel))) (bin_ok (bin_ok (la := lC (.int 7919)) (lb := lVar 1) rfl rfl (mul_ii (sml (by decide) (by decide +kernel)) smk)) (lb := lVar 1) rfl (mul_ii (sml (by omega) (by omega)) smk)) add2_ii) (lb := lC (.int 11)) rfl add2_ii) (lb := lC (.int 1181783497276652981)) rfl (mul_ii (sml (by omega) (by omega)) (sml (by decide) (by decide +kernel)))) (lb := lC (.int 2305843009213693951)) rfl (mod_ii (by decide)))
  have s0 := Int.emod_nonneg ((c % (10 : Int) ^ (30 : Int).toNat + 7919 * k * k + 11) * 1181783497276652981) (b := 2305843009213693951) (by decide)
  have s1 := Int.emod_lt_of_pos ((c % (10 : Int) ^ (30 : Int).toNat + 7919 * k * k + 11) * 1181783497276652981) (b := 2305843009213693951) (by decide)
  generalize (c % (10 : Int) ^ (30 : Int).toNat + 7919 * k * k + 11) * 1181783497276652981 % 2305843009213693951 = sd at g1 s0 s1
  have hN : gPowB S (.int ((10 : Int) ^ (60 : Int).toNat)) (.int 12) = some (.int (((10 : Int) ^ (60 : Int).toNat) ^ (12 : Int).toNat)) := by
    show (if 0 ≤ (12 : Int) ∧ (PySem.Builtin.Int.intBits ((10 : Int) ^ (60 : Int).toNat) : Int) * 12 ≤ 2 ^ 27 then some (D.int (((10 : Int) ^ (60 : Int).toNat) ^ (12 : Int).toNat)) else none) = _
    exact if_pos (by decide +kernel)
  have hN0 : 0 < ((10 : Int) ^ (60 : Int).toNat) ^ (12 : Int).toNat := by decide +kernel
  have hN1 : (((10 : Int) ^ (60 : Int).toNat) ^ (12 : Int).toNat).natAbs < 2 ^ 2500 := by decide +kernel
  have d0 := Int.emod_nonneg c (b := ((10 : Int) ^ (60 : Int).toNat) ^ (12 : Int).toNat) (by omega)
  have d1 := Int.emod_lt_of_pos c hN0
  have hd : lBin gMod (lVar 2) (lBin gPowB (lBin gPow (lC (.int 10)) (lC (.int 60))) (lC (.int 12))) [some (.lst (ns.map D.int)), some (.int k), some (.int c), some (.int sd)] S = .ok (.int (c % ((10 : Int) ^ (60 : Int).toNat) ^ (12 : Int).toNat)) S := bin_ok rfl (bin_ok (bin_ok rfl rfl (pow_ii ⟨by decide, by decide, by decide⟩)) rfl hN) (mod_ii hN0)
  generalize ((10 : Int) ^ (60 : Int).toNat) ^ (12 : Int).toNat = N at hd d0 d1 hN0 hN1
  have hlg : (c % N).natAbs.log2 < 2500 := lg_lt (Nat.lt_trans (by omega) hN1) (by decide)
  have hge : ∃ b : Bool, lBin gGeI (lVar 2) (lBin gPow (lC (.int 10)) (lC (.int 18))) [some (.lst (ns.map D.int)), some (.int k), some (.int c), some (.int sd)] S = .ok (.bl b) S := ⟨_, bin_ok rfl (bin_ok rfl rfl (pow_ii ⟨by decide, by decide, by decide⟩)) rfl⟩
  obtain ⟨b, hge⟩ := hge
  have hmul : ∃ dg : Int, gMulI S (.int (c % N)) (.int (if b then 1 else 0)) = some (.int dg) := by
    refine ⟨_, if_pos ?_⟩
    have : (if b then (1 : Int) else 0).natAbs.log2 = 0 := by cases b <;> decide
    omega
  obtain ⟨dg, hmul⟩ := hmul
  refine ⟨S ++ [.lst [.int dg, .int sd, .int 0]], body_rt (seq_nx (set_ok hc) (seq_nx g1 (ret_ok (lstN_ok (acons_ok (bin_ok hd (callb_ok (acons_ok hge rfl) rfl) hmul) (acons_ok rfl (acons_ok rfl rfl))) (by simp))))), ⟨dg, sd, 0, last_at, s0, by omega, by omega, by omega⟩, by simp, by simp⟩
theorem ok_pick (T : T60 w.params K mg) : ∃ g, FnL P w K mg base 1 T.f__law_pick T.fd__law_pick ["_law_pot_here", "_law_most"] g ∧ SPick g := by
  refine ⟨_, Fun.okL T.F__law_pick sc__law_pick fun cdv A outer s H E hr =>
(pssl_cons (psl_if (ptl_cmp opl_gt2 (pel_ix ixl_seq (pel_var (i := 0)) pel_int) pel_int) (pssl_cons (psl_set (i := 2) sc__law_pick.nd (pel_op opl_mod (pel_ix ixl_seq (pel_var (i := 0)) pel_int) (pel_var (i := 1))))
  (pssl_cons (psl_sub psetl_seq (pel_var (i := 0)) pel_int (pel_op opl_div (pel_ix ixl_seq (pel_var (i := 0)) pel_int) (pel_var (i := 1))))
  (pssl_one (psl_ret (pel_var (i := 2)))))) pssl_nil)
  (pssl_cons (psl_sub psetl_seq (pel_var (i := 0)) pel_int (pel_op opl_add2 (pel_ix ixl_seq (pel_var (i := 0)) pel_int) pel_int))
  (pssl_cons (psl_set (i := 3) sc__law_pick.nd (pel_op opl_add2 (pel_op opl_mul pel_int (pel_ix ixl_seq (pel_var (i := 0)) pel_int)) pel_int))
  (pssl_cons (psl_sub psetl_seq (pel_var (i := 0)) pel_int (pel_op opl_mod (pel_op opl_add2 (pel_op opl_mul (pel_ix ixl_seq (pel_var (i := 0)) pel_int) pel_int) (pel_var (i := 3))) pel_int))
  (pssl_cons (psl_set (i := 4) sc__law_pick.nd (pel_op opl_mod (pel_op opl_mul (pel_ix ixl_seq (pel_var (i := 0)) pel_int) (pel_op opl_add2 (pel_op opl_mod (pel_ix ixl_seq (pel_var (i := 0)) pel_int) pel_int) (pel_op opl_mul pel_int (pel_ix ixl_seq (pel_var (i := 0)) pel_int)))) pel_int))
  (pssl_one (psl_ret (pel_op opl_mod (pel_op opl_div (pel_var (i := 4)) pel_int) (pel_var (i := 1)))))))))), ?_⟩
  intro n S j wd hp hn w0 w1
  obtain ⟨dig, seed, cnt, hj, s0, s1, c0, c1⟩ := hp
  have bb : (10 : Int) ^ 6 ≤ 10 ^ 100 ∧ (10 : Int) ^ 29 + 1 < 10 ^ 100 ∧ (10 : Int) ^ 30 < 10 ^ 100 ∧ (10 : Int) ^ 29 + 1 < 10 ^ 30 ∧ (2305843009213693951 : Int) < 10 ^ 30 ∧ (7919 : Int) * 10 ^ 30 + 1000003 < 10 ^ 100 := by decide +kernel
  obtain ⟨bb1, bb2, bb3, bb4, bb5, bb6⟩ := bb
  have smw : Sm wd := sml (by omega) (by omega)
  by_cases hd : 0 < dig
  · have g3 := set_ok (i := 2) (ρ := [some (.ref j), some (.int wd), none, none, none]) (bin_ok (lx (i := 0) (k := 0) hj rfl rfl) (lb := lVar 1) rfl (mod_ii (i := dig) w0))
    have g4 := stS_ok (ρ := [some (.ref j), some (.int wd), some (.int (dig % wd)), none, none]) (lo := lVar 0) (li := lC (.int 0)) (bin_ok (lx (i := 0) (k := 0) hj rfl rfl) (lb := lVar 1) rfl (div_ii (i := dig) w0 smw)) rfl rfl (sub_ok (n := 0) (d := .int (dig / wd)) hj rfl)
    refine ⟨dig % wd, _, body_rt (seq_rt (if_tt (tru_b (bin_ok (lx hj rfl rfl) rfl rfl) (decide_eq_true hd)) (seq_nx g3 (seq_nx g4 (ret_ok rfl))))), Int.emod_nonneg _ (Int.ne_of_gt w0), Int.emod_lt_of_pos _ w0, ⟨dig / wd, seed, cnt, set_self hj, s0, s1, c0, by omega⟩, Keep.set⟩
  · have g1 := stS_ok (ρ := [some (.ref j), some (.int wd), none, none, none]) (lo := lVar 0) (li := lC (.int 2)) (bin_ok (lx (i := 0) (k := 2) hj rfl rfl) (lb := lC (.int 1)) rfl add2_ii) rfl rfl (sub_ok (n := 2) (d := .int (cnt + 1)) hj rfl)
    have hj1 := set_self (o' := .lst [.int dig, .int seed, .int (cnt + 1)]) hj
    have k1 : Keep j S (S.set j (.lst [.int dig, .int seed, .int (cnt + 1)])) := Keep.set
    have g1' : lStS stSeq (lVar 0) (lC (.int 2)) (lBin gAdd2 (lBin gIx (lVar 0) (lC (.int 2))) (lC (.int 1))) [some (.ref j), some (.int wd), none, none, none] S = .ok (.nx [some (.ref j), some (.int wd), none, none, none]) (S.set j (.lst [.int dig, .int seed, .int (cnt + 1)])) := g1
    generalize S.set j (.lst [.int dig, .int seed, .int (cnt + 1)]) = S1 at g1' hj1 k1
    have smc : Sm (cnt + 1) := sml (by omega) (by omega)
    have g2 := set_ok (i := 3) (S := S1) (ρ := [some (.ref j), some (.int wd), none, none, none]) (bin_ok (bin_ok (la := lC (.int 1442695040888963407)) rfl (lx (i := 0) (k := 2) hj1 rfl rfl) (mul_ii (sml (by decide) (by decide +kernel)) smc)) (lb := lC (.int 11)) rfl add2_ii)
    generalize 1442695040888963407 * (cnt + 1) + 11 = st at g2
    have g3 := stS_ok (ρ := [some (.ref j), some (.int wd), none, some (.int st), none]) (lo := lVar 0) (li := lC (.int 1)) (bin_ok (bin_ok (bin_ok (lx (i := 0) (k := 1) hj1 rfl rfl) (lb := lC (.int 6364136223846793005)) rfl (mul_ii (sml s0 (by omega)) (sml (by decide) (by decide +kernel)))) (lb := lVar 3) rfl add2_ii) (lb := lC (.int 2305843009213693951)) rfl (mod_ii (by decide))) rfl rfl (sub_ok (n := 1) (d := .int ((seed * 6364136223846793005 + st) % 2305843009213693951)) hj1 rfl)
    have t0 := Int.emod_nonneg (seed * 6364136223846793005 + st) (b := 2305843009213693951) (by decide)
    have t1 := Int.emod_lt_of_pos (seed * 6364136223846793005 + st) (b := 2305843009213693951) (by decide)
    generalize (seed * 6364136223846793005 + st) % 2305843009213693951 = sd at g3 t0 t1
    have hj2 := set_self (o' := .lst [.int dig, .int sd, .int (cnt + 1)]) hj1
    have k2 : Keep j S1 (S1.set j (.lst [.int dig, .int sd, .int (cnt + 1)])) := Keep.set
    have g3' : lStS stSeq (lVar 0) (lC (.int 1)) (lBin gMod (lBin gAdd2 (lBin gMulI (lBin gIx (lVar 0) (lC (.int 1))) (lC (.int 6364136223846793005))) (lVar 3)) (lC (.int 2305843009213693951))) [some (.ref j), some (.int wd), none, some (.int st), none] S1 = .ok (.nx [some (.ref j), some (.int wd), none, some (.int st), none]) (S1.set j (.lst [.int dig, .int sd, .int (cnt + 1)])) := g3
    generalize S1.set j (.lst [.int dig, .int sd, .int (cnt + 1)]) = S2 at g3' hj2 k2
    have q0 := Int.emod_nonneg sd (b := 1000003) (by decide)
    have q1 := Int.emod_lt_of_pos sd (b := 1000003) (by decide)
    have g4 := set_ok (i := 4) (S := S2) (ρ := [some (.ref j), some (.int wd), none, some (.int st), none]) (bin_ok (bin_ok (lx (i := 0) (k := 1) hj2 rfl rfl) (bin_ok (bin_ok (lx (i := 0) (k := 1) hj2 rfl rfl) (lb := lC (.int 1000003)) rfl (mod_ii (by decide))) (bin_ok (la := lC (.int 7919)) rfl (lx (i := 0) (k := 2) hj2 rfl rfl) (mul_ii (sml (by decide) (by decide +kernel)) smc)) add2_ii) (mul_ii (sml t0 (by omega)) (sml (by omega) (by omega)))) (lb := lC (.int 2305843009213693921)) rfl (mod_ii (by decide)))
    generalize sd * (sd % 1000003 + 7919 * (cnt + 1)) % 2305843009213693921 = tw at g4
    exact ⟨tw / 131071 % wd, S2, body_rt (seq_nx (if_ff (tru_b (bin_ok (lx hj rfl rfl) rfl rfl) (decide_eq_false hd)) rfl) (seq_nx g1' (seq_nx g2 (seq_nx g3' (seq_nx g4 (ret_ok (bin_ok (bin_ok rfl rfl (div_ii (by decide) (sml (by decide) (by decide +kernel)))) rfl (mod_ii w0)))))))), Int.emod_nonneg _ (Int.ne_of_gt w0), Int.emod_lt_of_pos _ w0, ⟨dig, sd, cnt + 1, hj2, t0, by omega, by omega, by omega⟩, k1.trans k2⟩
theorem ok_of (T : T60 w.params K mg) : ∃ g, FnL P w K mg base 2 T.f__law_of T.fd__law_of ["_law_pot_here", "_law_some"] g ∧ SOf g := by
  obtain ⟨gp, Fn__law_pick, Sp⟩ := ok_pick (P := P) (w := w) (base := base) T
  refine ⟨_, Fun.okL T.F__law_of sc__law_of fun cdv A outer s H E hr =>
(pssl_one (psl_ret (pel_ix ixl_seq (pel_var (i := 1)) (pel_call Fn__law_pick (hr.mono (by decide)) rfl T.mg__law_pick T.F__law_pick.kp T.b__law_pick dfl_nil (pal_cons (pel_var (i := 0)) (pal_cons (pel_callB (cl_len) rfl T.n_len (by decide +kernel) (pal_cons (pel_var (i := 1)) pal_nil)) pal_nil)))))), ?_⟩
  intro n S j d l Q hp hn hl l0 l1 hQ
  obtain ⟨v, S', e, v0, v1, hp', hk⟩ := Sp n S j l hp hn l0 l1
  obtain ⟨y, hy, q⟩ := hQ S' v hk v0 v1
  exact ⟨y, S', body_rt (ret_ok (bin_ok rfl (call_ok (acons_ok rfl (acons_ok (callb_ok (acons_ok rfl rfl) hl) rfl)) rfl e) hy)), q, hp', hk⟩
end
end K60

namespace K60
open PySem PySem.Spec PyProof.Rows L2 MP TL
/-! ### what the kernel runs -/
def rowsOfD : List D → Option (List (Str × Int))
  | [] => some []
  | .tup [.str t, .int r] :: ds => (rowsOfD ds).map fun l => (t, r) :: l
  | _ => none
theorem rowsOfD_eq : ∀ {ds : List D} {L : List (Str × Int)}, rowsOfD ds = some L → ds = L.map fun q => D.tup [.str q.1, .int q.2]
  | [], _, h => by cases h; rfl
  | d :: ds, L, h => by
    unfold rowsOfD at h
    split at h
    · rename_i e; cases e
    · rename_i t r ds' e
      cases e
      cases q : rowsOfD ds with
      | none => rw [q] at h; cases h
      | some l => rw [q] at h; cases h; rw [rowsOfD_eq q]; rfl
    · cases h
def chkR (C : Addr) (rc : F) (t : Str) (r : Int) : Bool := match rc [.str t] [] with
  | .exc C' fs _ => match fs with
    | [(f, .int i)] => decide (C' = C) && (decide (f = "row") && decide (i = r))
    | _ => false
  | .ok _ _ => decide (r = -1)
  | .bad => false
theorem chkR_tells {C : Addr} {rc : F} {t : Str} {r : Int} (h : chkR C rc t r = true) : Tells C rc (.str t) r := by
  unfold chkR at h
  split at h
  · rename_i C' fs S1 e
    split at h
    · rename_i f i
      simp only [Bool.and_eq_true, decide_eq_true_eq] at h
      obtain ⟨rfl, rfl, rfl⟩ := h
      exact ⟨S1, .inl e⟩
    · cases h
  · rename_i d' S1 e
    exact ⟨S1, .inr ⟨of_decide_eq_true h, d', e⟩⟩
  · cases h
def W6 : List Str := ["b", "zy", "member", "year", "circle", "qqqqqqqqqqqq"]
def N9 : List Str := ["1", "2", "3", "4", "5", "6", "7", "8", "9"]
def good (x : Str) : Str := "circle 0\nmember " ++ x ++ "\nbar " ++ x ++ " a\nyear\nyear\n  " ++ x ++ " > a"
def chkL (C : Addr) (rc g : F) (x : Str) : Bool := match g [.str x] [] with
  | .ok (.lst ds) _ => match rowsOfD ds with
    | some L => L.all fun q => chkR C rc q.1 q.2
    | none => false
  | _ => false
def chkW (C : Addr) (rc rd gc gd : F) (x : Str) : Bool := chkR C rc (good x) (-1) && (chkL C rc gc x && (chkL C rd gd x && chkR C rd (x ++ " > " ++ x) (-1)))
def chkN (C : Addr) (rc : F) (x : Str) : Bool := chkR C rc ("circle " ++ ("0" ++ x)) 0 && (chkR C rc ("circle " ++ ("-" ++ x)) 0 && (chkR C rc ("circle " ++ (x ++ "x")) 0 && (List.range 30).all fun k => chkR C rc ("circle " ++ strRep x ((k : Int) + 1)) (-1)))
section
variable {P : Program} {w : World} {K : PySem.W.Frag} {mg : Str → Option Value} {base : Heap}
def ChkAll (T : T60 w.params K mg) : Bool :=
  let C := T.C_NoText
  let rc := (pk_read_circle (P := P) (w := w) (base := base) T).1
  let rd := (pk_read_drawing (P := P) (w := w) (base := base) T).1
  let gc := (pk__law_circles (P := P) (w := w) (base := base) T).1
  let gd := (pk__law_drawings (P := P) (w := w) (base := base) T).1
  chkR C rc "circle 0" (-1) && (chkR C rd "" (-1) && (chkR C rc "circle +0" 0 && (chkR C rc "circle 00" 0 && (W6.all (chkW C rc rd gc gd) && N9.all (chkN C rc)))))
end
end K60

namespace K60
open PySem PySem.Spec PyProof.Rows L2 MP TL
theorem range_ok {t : LA} {ρ : Ev} {S S1 : Sto} {j : Int} (h : t ρ S = .ok [.int j] S1) (h0 : 0 ≤ j) (h1 : j < 1000000) : lRange1 t ρ S = .ok ⟨(List.range j.toNat).map fun (i : Nat) => .int (i : Int), fun _ => True⟩ S1 := by
  unfold lRange1
  rw [h, bind_ok]
  show (if -(2 ^ 62) ≤ j ∧ j < 2 ^ 62 then _ else _) = _
  rw [if_pos ⟨by omega, by omega⟩]
def NotStr (d : D) : Prop := gIsi tabStrA [] d = some (.bl false)
def SNest (g : F) : Prop := ∀ (n : Int) (S : Sto) (j : Nat) (d : D), PotAt j n S → n < 10 ^ 28 → below 0 d = true → ∃ d' S', g [.ref j, d] S = .ok d' S' ∧ below 0 d' = true ∧ NotStr d' ∧ PotAt j (n + 40) S' ∧ Keep j S S'
section
variable {P : Program} {w : World} {K : PySem.W.Frag} {mg : Str → Option Value} {base : Heap}
theorem ok_nested (T : T60 w.params K mg) : ∃ g, FnL P w K mg base 2 T.f__law_nested T.fd__law_nested ["_law_pot_here", "_law_thing"] g ∧ SNest g := by
  obtain ⟨gp, Fn__law_pick, Sp⟩ := ok_pick (P := P) (w := w) (base := base) T
  refine ⟨_, Fun.okL T.F__law_nested sc__law_nested fun cdv A outer s H E hr =>
(pssl_cons (psl_for (passes_of rfl) rfl (pil_range1 rfl T.n_range (pal_cons (pel_op opl_add2 pel_int (pel_call Fn__law_pick (hr.mono (by decide)) rfl T.mg__law_pick T.F__law_pick.kp T.b__law_pick dfl_nil (pal_cons (pel_var (i := 0)) (pal_cons pel_int pal_nil)))) pal_nil)) (pgl_name (i := 2) sc__law_nested.nd) (pssl_one (psl_set (i := 1) sc__law_nested.nd (pel_ifExp (ptl_cmp (opl_eq hr.units) (pel_call Fn__law_pick (hr.mono (by decide)) rfl T.mg__law_pick T.F__law_pick.kp T.b__law_pick dfl_nil (pal_cons (pel_var (i := 0)) (pal_cons pel_int pal_nil))) pel_int) (pel_lst (pal_cons (pel_var (i := 1)) pal_nil)) (pel_tup (pal_cons (pel_var (i := 1)) pal_nil))))))
  (pssl_one (psl_ret (pel_var (i := 1))))), ?_⟩
  intro n S j d0 hp hn hb
  have loop : ∀ (items : List D) (n : Int) (S : Sto) (d : D), PotAt j n S → n + items.length < 10 ^ 29 → below 0 d = true → ∃ d' S', forG [some (.ref j), some d0, none] (fun _ => True) (gtName 2) (lSet 1 (lIf (tTru (lBin gEq (lCall 2 gp [] (aCons (lVar 0) (aCons (lC (.int 2)) aNil))) (lC (.int 0)))) (lLst (aCons (lVar 1) aNil)) (lTup (aCons (lVar 1) aNil)))) items [some (.ref j), some d, none] S = .ok (.nx [some (.ref j), some d', none]) S' ∧
      below 0 d' = true ∧ (items ≠ [] ∨ NotStr d → NotStr d') ∧ PotAt j (n + items.length) S' ∧ Keep j S S' := by
    intro items
    induction items with
    | nil => exact fun n S d hp hn hb => ⟨d, S, for_end trivial, hb, fun h => h.elim (fun z => absurd rfl z) id, by simpa using hp, Keep.refl⟩
    | cons x items ih =>
      intro n S d hp hn hb
      simp only [List.length_cons, Int.natCast_add, Int.natCast_one] at hn
      obtain ⟨v, S1, e1, v0, v1, p1, k1⟩ := Sp n S j 2 hp (by omega) (by decide) (by decide)
      by_cases hv : v = 0
      · obtain ⟨d', S', e, b', q, p', k'⟩ := ih (n + 1) S1 (.lst [d]) p1 (by omega) (by simp [below, belows, hb])
        refine ⟨d', S', for_go trivial rfl (set_ok (ife_tt (tru_b (bin_ok (call_ok (acons_ok rfl (acons_ok rfl rfl)) rfl e1) rfl eq_ii) (decide_eq_true hv)) (lst_ok (acons_ok rfl rfl) (by simp)))) e, b', fun _ => q (.inr rfl), ?_, k1.trans k'⟩
        have e2 : n + ((x :: items).length : Int) = n + 1 + (items.length : Int) := by simp only [List.length_cons, Int.natCast_add, Int.natCast_one]; omega
        rw [e2]; exact p'
      · obtain ⟨d', S', e, b', q, p', k'⟩ := ih (n + 1) S1 (.tup [d]) p1 (by omega) (by simp [below, belows, hb])
        refine ⟨d', S', for_go trivial rfl (set_ok (ife_ff (tru_b (bin_ok (call_ok (acons_ok rfl (acons_ok rfl rfl)) rfl e1) rfl eq_ii) (decide_eq_false hv)) (tup_ok (acons_ok rfl rfl) (by simp)))) e, b', fun _ => q (.inr rfl), ?_, k1.trans k'⟩
        have e2 : n + ((x :: items).length : Int) = n + 1 + (items.length : Int) := by simp only [List.length_cons, Int.natCast_add, Int.natCast_one]; omega
        rw [e2]; exact p'
  obtain ⟨v, S1, e0, v0, v1, p1, k1⟩ := Sp n S j 28 hp (by omega) (by decide) (by decide)
  have hlen : ((List.range (1 + v).toNat).map fun (i : Nat) => D.int (i : Int)).length = (1 + v).toNat := by simp
  obtain ⟨d', S', e, b', q, p', k'⟩ := loop ((List.range (1 + v).toNat).map fun (i : Nat) => D.int (i : Int)) (n + 1) S1 d0 p1 (by rw [hlen]; omega) hb
  refine ⟨d', S', body_rt (seq_nx (for_ok (range_ok (acons_ok (bin_ok rfl (call_ok (acons_ok rfl (acons_ok rfl rfl)) rfl e0) add2_ii) rfl) (by omega) (by omega)) e) (ret_ok rfl)), b', q (.inl fun z => ?_), p'.mono (by rw [hlen]; omega), k1.trans k'⟩
  have := congrArg List.length z
  rw [hlen] at this
  simp at this
  omega
end
end K60

namespace K60
open PySem PySem.Spec PyProof.Rows L2 MP TL
/-! ### the law's walk -/
theorem shell2 {n : Nat} {l2 : LS} {li : LI} {g : GT} {lb : LS} {ds : List D} {S : Sto} {it : Its'} {d : D} (h2 : li (ds.map some ++ List.replicate (n - ds.length) none) S = .ok it S) (hc : ∀ S, it.chk S)
    (ht : ∀ d ∈ it.items, ∀ S, ∃ ρ2 ρ' S', g d (ds.map some ++ List.replicate (n - ds.length) none) = some ρ2 ∧ lb ρ2 S = .ok (.nx ρ') S' ∧ wk (ds.map some ++ List.replicate (n - ds.length) none) ρ' = ds.map some ++ List.replicate (n - ds.length) none) (h3 : ∀ S, ∃ S', l2 (ds.map some ++ List.replicate (n - ds.length) none) S = .ok (.rt d) S') :
    ∃ S', bodyF n (lSeq (lFor li g lb) l2) ds S = .ok d S' := by
  have key : ∀ (items : List D) (S : Sto), (∀ d ∈ items, d ∈ it.items) → ∃ S', forG (ds.map some ++ List.replicate (n - ds.length) none) it.chk g lb items (ds.map some ++ List.replicate (n - ds.length) none) S = .ok (.nx (ds.map some ++ List.replicate (n - ds.length) none)) S' := by
    intro items
    induction items with
    | nil => exact fun S _ => ⟨S, for_end (hc S)⟩
    | cons d items ih =>
      intro S hm
      obtain ⟨ρ2, ρ', S1, h1, h2, h3⟩ := ht d (hm d (by simp)) S
      obtain ⟨S2, h5⟩ := ih S1 (fun d hd => hm d (by simp [hd]))
      exact ⟨S2, for_go (hc S) h1 h2 (by rw [h3]; exact h5)⟩
  obtain ⟨S2, e⟩ := key it.items S fun _ h => h
  obtain ⟨S3, e3⟩ := h3 S2
  exact ⟨S3, body_rt (seq_nx (for_ok h2 e) e3)⟩
theorem at_mem {xs : List D} {v : Int} (h0 : 0 ≤ v) (h1 : v < (xs.length : Int)) : ∃ y, atI xs v = some y ∧ y ∈ xs := by
  have hv : v.toNat < xs.length := by omega
  refine ⟨xs[v.toNat], ?_, List.getElem_mem hv⟩
  unfold atI ixN
  rw [if_pos h0, if_pos h1]
  exact List.getElem?_eq_getElem hv
theorem lst_at {S : Sto} {xs : List D} {v : Int} (h0 : 0 ≤ v) (h1 : v < (xs.length : Int)) : ∃ y, gIx S (.lst xs) (.int v) = some y ∧ y ∈ xs := at_mem h0 h1
theorem len_ref {S : Sto} {k : Nat} {xs : List D} (h : S[k]? = some (.lst xs)) : gLen S [.ref k] = some (.int (xs.length : Int)) := by
  unfold gLen
  dsimp only
  rw [vw_ref h]
theorem snoc_get {S : Sto} {o : O} : (S ++ [o])[S.length]? = some o := by simp
theorem snoc_set {S : Sto} {o o' : O} : (S ++ [o]).set S.length o' = S ++ [o'] := by simp
theorem stApp_snoc {S : Sto} {xs : List D} {y : D} (h : xs.length ≤ 100000) : stApp (S ++ [.lst xs]) (.ref S.length) [y] = some (.non, S ++ [.lst (xs ++ [y])]) := by
  unfold stApp
  dsimp only
  rw [snoc_get]
  dsimp only
  rw [if_pos (Nat.lt_of_le_of_lt h (by decide)), snoc_set]
theorem is_ref {S : Sto} {xs : List D} : isTy "list" (S ++ [.lst xs]) (.ref S.length) = true := by
  unfold isTy
  rw [vw_ref snoc_get]
  rfl
theorem htE {g : GT} {lb : LS} {d : D} {ρ ρ2 : Ev} {S : Sto} (h : g d ρ = some ρ2) (h2 : ∃ ρ' S', lb ρ2 S = .ok (.nx ρ') S' ∧ wk ρ ρ' = ρ) : ∃ ρ2 ρ' S', g d ρ = some ρ2 ∧ lb ρ2 S = .ok (.nx ρ') S' ∧ wk ρ ρ' = ρ := by
  obtain ⟨ρ', S', h3, h4⟩ := h2
  exact ⟨_, _, _, h, h3, h4⟩
theorem seqE {l1 l2 : LS} {ρ ρ1 : Ev} {S S1 : Sto} {Pp : Ev → Prop} (h : l1 ρ S = .ok (.nx ρ1) S1) (h2 : ∃ ρ' S', l2 ρ1 S1 = .ok (.nx ρ') S' ∧ Pp ρ') : ∃ ρ' S', lSeq l1 l2 ρ S = .ok (.nx ρ') S' ∧ Pp ρ' := by
  obtain ⟨ρ', S', h3, h4⟩ := h2
  exact ⟨_, _, seq_nx h h3, h4⟩
theorem endE {l : LS} {ρ ρ' : Ev} {S S' : Sto} {Pp : Ev → Prop} (h : l ρ S = .ok (.nx ρ') S') (h2 : Pp ρ') : ∃ ρ' S', l ρ S = .ok (.nx ρ') S' ∧ Pp ρ' := ⟨_, _, h, h2⟩
theorem asg_ok {g : GT} {le : LE} {ρ ρ1 : Ev} {S S1 : Sto} {d : D} (h : le ρ S = .ok d S1) (hg : g d ρ = some ρ1) : lAsg g le ρ S = .ok (.nx ρ1) S1 := by
  unfold lAsg; rw [h]; show (match g d ρ with | some ρ1 => R.ok (Fl.nx ρ1) S1 | none => .bad) = _; rw [hg]
theorem fold_rep (c : Nat) : ∀ (m : Nat) (a : Array Nat), ((List.replicate m (#[c] : Array Nat)).foldl (· ++ ·) a).toList = a.toList ++ List.replicate m c
  | 0, a => by simp
  | m + 1, a => by
    rw [List.replicate_succ, List.foldl_cons, fold_rep c m, List.replicate_succ]
    simp
theorem rep_one {c : Nat} {n : Int} (h : 1 ≤ n) : tl (strRep ⟨#[c]⟩ n) = List.replicate n.toNat c := by
  unfold strRep
  rw [if_neg (by omega)]
  by_cases h1 : n = 1
  · subst h1
    rfl
  · rw [if_neg (by simp [h1, Str.length])]
    exact (fold_rep c n.toNat #[]).trans (by simp)
theorem mulT_ok {S : Sto} {c : Nat} {n : Int} (h : 1 ≤ n) (h2 : n ≤ 5000) : gMulT S (.str ⟨#[c]⟩) (.int n) = some (.str (strRep ⟨#[c]⟩ n)) ∧ (strRep ⟨#[c]⟩ n).length = n.toNat ∧ (c ≠ 10 → 10 ∉ tl (strRep ⟨#[c]⟩ n)) := by
  have hl : (strRep ⟨#[c]⟩ n).length = n.toNat := by rw [len_tl, rep_one h, List.length_replicate]
  refine ⟨?_, hl, fun hc z => ?_⟩
  · show (if 0 ≤ n ∧ n ≤ 10000 ∧ (⟨#[c]⟩ : Str).length ≤ 10 ∧ (strRep ⟨#[c]⟩ n).length ≤ sizeLine then _ else none) = _
    rw [if_pos ⟨by omega, by omega, by show 1 ≤ 10; decide, by rw [hl, sizeLine_eq]; omega⟩]
  · rw [rep_one h] at z
    exact hc (List.eq_of_mem_replicate z).symm
theorem n9_one : ∀ t ∈ N9, ∃ c, t = ⟨#[c]⟩ ∧ c ≠ 10 := by
  intro t h
  simp only [N9, List.mem_cons, List.not_mem_nil, or_false] at h
  rcases h with rfl | rfl | rfl | rfl | rfl | rfl | rfl | rfl | rfl <;> exact ⟨_, rfl, by decide⟩
theorem addB {S : Sto} {i j : Str} {a b : Nat} (ha : i.length ≤ a) (hb : j.length ≤ b) (h : a + b ≤ 100000) : gAdd2 S (.str i) (.str j) = some (.str (i ++ j)) ∧ (i ++ j).length ≤ a + b := by
  have hl : (i ++ j).length = i.length + j.length := by rw [len_tl, tl_append, List.length_append, ← len_tl, ← len_tl]
  exact ⟨add2_ss (by rw [sizeLine_eq]; omega), by omega⟩
def SLaw (g : F) : Prop := ∀ (zs : List Int), zs.length ≤ 63 → ∃ S', g [.lst (zs.map D.int)] [] = .ok (.bl true) S'
section
variable {P : Program} {w : World} {K : PySem.W.Frag} {mg : Str → Option Value} {base : Heap}
theorem circ_S (T : T60 w.params K mg) (S : Sto) {x : Str} (hx : x ∈ W6) : (pk__law_circles (P := P) (w := w) (base := base) T).1 [.str x] S = (match (pk__law_circles (P := P) (w := w) (base := base) T).1 [.str x] [] with | .ok d _ => .ok d S | _ => .bad) := by
  simp only [W6, List.mem_cons, List.not_mem_nil, or_false] at hx
  rcases hx with rfl | rfl | rfl | rfl | rfl | rfl <;> kernel_rfl
theorem draw_S (T : T60 w.params K mg) (S : Sto) {x : Str} (hx : x ∈ W6) : (pk__law_drawings (P := P) (w := w) (base := base) T).1 [.str x] S = (match (pk__law_drawings (P := P) (w := w) (base := base) T).1 [.str x] [] with | .ok d _ => .ok d S | _ => .bad) := by
  simp only [W6, List.mem_cons, List.not_mem_nil, or_false] at hx
  rcases hx with rfl | rfl | rfl | rfl | rfl | rfl <;> kernel_rfl
/-- a list of texts with their rows, each told so -/
theorem list_of {C : Addr} {rc g : F} {x : Str} {S : Sto} (hS : g [.str x] S = (match g [.str x] [] with | .ok d _ => .ok d S | _ => .bad)) (h : chkL C rc g x = true) : ∃ L : List (Str × Int), g [.str x] S = .ok (.lst (L.map fun q => D.tup [.str q.1, .int q.2])) S ∧ ∀ q ∈ L, Tells C rc (.str q.1) q.2 := by
  unfold chkL at h
  split at h
  · rename_i ds S1 e
    split at h
    · rename_i L hL
      rw [e] at hS
      rw [rowsOfD_eq hL] at hS
      exact ⟨L, hS, fun q hq => chkR_tells (List.all_eq_true.mp h q hq)⟩
    · cases h
  · cases h
theorem ok_law (T : T60 w.params K mg) (hchk : ChkAll (P := P) (w := w) (base := base) T = true) : ∃ g, FnL P w K mg base 9 T.f_law T.fd_law ["_law_script"] g ∧ SLaw g := by
  obtain ⟨gp, Fn__law_pot, Sp⟩ := ok_pot (P := P) (w := w) (base := base) T
  obtain ⟨gk, Fn__law_pick, Sk⟩ := ok_pick (P := P) (w := w) (base := base) T
  obtain ⟨go, Fn__law_of, So⟩ := ok_of (P := P) (w := w) (base := base) T
  obtain ⟨gn, Fn__law_nested, Sn⟩ := ok_nested (P := P) (w := w) (base := base) T
  obtain ⟨gr, Fn__law_row_of, Sr⟩ := ok_row (P := P) (w := w) (base := base) T
  have Fn__law_circles := (pk__law_circles (P := P) (w := w) (base := base) T).2
  have Fn__law_drawings := (pk__law_drawings (P := P) (w := w) (base := base) T).2
  have cS := fun S x hx => circ_S (P := P) (w := w) (base := base) T S (x := x) hx
  have dS := fun S x hx => draw_S (P := P) (w := w) (base := base) T S (x := x) hx
  have rt := fun {d : D} h => rc_thing (P := P) (w := w) (base := base) T (d := d) h
  have dt := fun {d : D} h => rd_thing (P := P) (w := w) (base := base) T (d := d) h
  have rl := fun {z : Str} h1 h2 h3 => rc_long (P := P) (w := w) (base := base) T (z := z) h1 h2 h3
  unfold ChkAll at hchk
  dsimp only at hchk
  generalize (pk_read_circle (P := P) (w := w) (base := base) T).1 = rc at Sr rt rl hchk
  generalize (pk_read_drawing (P := P) (w := w) (base := base) T).1 = rd at Sr dt hchk
  generalize (pk__law_circles (P := P) (w := w) (base := base) T).1 = gc at Fn__law_circles cS hchk
  generalize (pk__law_drawings (P := P) (w := w) (base := base) T).1 = gd at Fn__law_drawings dS hchk
  simp only [Bool.and_eq_true] at hchk
  obtain ⟨c1, c2, c3, c4, cW, cN⟩ := hchk
  have row0 : ∀ {d : D} {S : Sto} {r : Int}, below 0 d = true → Tells T.C_NoText rc d r → gr [d, .int 0] S = .ok (.int r) S := fun hb h => (Sr _ _ _ hb).1 h
  have row1 : ∀ {d : D} {S : Sto} {r : Int}, below 0 d = true → Tells T.C_NoText rd d r → gr [d, .int 1] S = .ok (.int r) S := fun hb h => (Sr _ _ _ hb).2 h
  refine ⟨_, Fun.okL T.F_law sc_law fun cdv A outer s H E hr =>
(pssl_cons (psl_for (passes_of rfl) rfl (pil_range1 rfl T.n_range (pal_cons (pel_callB (cl_max2 rfl) rfl T.n_max (by decide +kernel) (pal_cons pel_int (pal_cons (pel_callB (cl_min2 rfl) rfl T.n_min (by decide +kernel) (pal_cons pel_int (pal_cons (pel_callB (cl_len) rfl T.n_len (by decide +kernel) (pal_cons (pel_var (i := 0)) pal_nil)) pal_nil))) pal_nil))) pal_nil)) (pgl_name (i := 1) sc_law.nd) (pssl_cons (psl_set (i := 2) sc_law.nd (pel_call Fn__law_pot (hr.mono (by decide)) rfl T.mg__law_pot T.F__law_pot.kp T.b__law_pot dfl_nil (pal_cons (pel_var (i := 0)) (pal_cons (pel_var (i := 1)) pal_nil))))
  (pssl_cons (psl_set (i := 3) sc_law.nd (pel_call Fn__law_of (hr.mono (by decide)) rfl T.mg__law_of T.F__law_of.kp T.b__law_of dfl_nil (pal_cons (pel_var (i := 2)) (pal_cons (pel_lst (pal_cons pel_str (pal_cons pel_str (pal_cons pel_str (pal_cons pel_str (pal_cons pel_str (pal_cons (pel_op opl_mulS pel_str pel_int) pal_nil))))))) pal_nil))))
  (pssl_cons (psl_set (i := 4) sc_law.nd (pel_op opl_add2 (pel_op opl_add2 (pel_op opl_add2 (pel_op opl_add2 (pel_op opl_add2 (pel_op opl_add2 pel_str (pel_var (i := 3))) pel_str) (pel_var (i := 3))) pel_str) (pel_var (i := 3))) pel_str))
  (pssl_cons (psl_if (ptl_cmp (opl_ne hr.units) (pel_lst (pal_cons (pel_call Fn__law_row_of (hr.mono (by decide)) rfl T.mg__law_row_of T.F__law_row_of.kp T.b__law_row_of dfl_nil (pal_cons (pel_var (i := 4)) (pal_cons pel_int pal_nil))) (pal_cons (pel_call Fn__law_row_of (hr.mono (by decide)) rfl T.mg__law_row_of T.F__law_row_of.kp T.b__law_row_of dfl_nil (pal_cons pel_str (pal_cons pel_int pal_nil))) (pal_cons (pel_call Fn__law_row_of (hr.mono (by decide)) rfl T.mg__law_row_of T.F__law_row_of.kp T.b__law_row_of dfl_nil (pal_cons pel_str (pal_cons pel_int pal_nil))) pal_nil)))) (pel_op opl_mulX (pel_lst (pal_cons (pel_un unl_neg pel_int) pal_nil)) pel_int)) (pssl_one (psl_ret pel_bl)) pssl_nil)
  (pssl_cons (psl_for (passes_of rfl) rfl (pil_val (pel_call Fn__law_circles (hr.mono (by decide)) rfl T.mg__law_circles T.F__law_circles.kp T.b__law_circles dfl_nil (pal_cons (pel_var (i := 3)) pal_nil))) (pgl_tup (n := 2) rfl (pgsl_cons (pgl_name (i := 5) sc_law.nd) (pgsl_cons (pgl_name (i := 6) sc_law.nd) pgsl_nil))) (pssl_one (psl_if (ptl_cmp (opl_ne hr.units) (pel_call Fn__law_row_of (hr.mono (by decide)) rfl T.mg__law_row_of T.F__law_row_of.kp T.b__law_row_of dfl_nil (pal_cons (pel_var (i := 5)) (pal_cons pel_int pal_nil))) (pel_var (i := 6))) (pssl_one (psl_ret pel_bl)) pssl_nil)))
  (pssl_cons (psl_for (passes_of rfl) rfl (pil_val (pel_call Fn__law_drawings (hr.mono (by decide)) rfl T.mg__law_drawings T.F__law_drawings.kp T.b__law_drawings dfl_nil (pal_cons (pel_var (i := 3)) pal_nil))) (pgl_tup (n := 2) rfl (pgsl_cons (pgl_name (i := 5) sc_law.nd) (pgsl_cons (pgl_name (i := 6) sc_law.nd) pgsl_nil))) (pssl_one (psl_if (ptl_cmp (opl_ne hr.units) (pel_call Fn__law_row_of (hr.mono (by decide)) rfl T.mg__law_row_of T.F__law_row_of.kp T.b__law_row_of dfl_nil (pal_cons (pel_var (i := 5)) (pal_cons pel_int pal_nil))) (pel_var (i := 6))) (pssl_one (psl_ret pel_bl)) pssl_nil)))
  (pssl_cons (psl_set (i := 7) sc_law.nd (pel_lstN (pal_cons pel_non (pal_cons pel_bl (pal_cons pel_bl (pal_cons pel_int (pal_cons (pel_un unl_neg pel_int) (pal_cons (pel_op opl_pow pel_int pel_int) (pal_cons (pel_tup pal_nil) (pal_cons (pel_lst pal_nil) (pal_cons pel_dctK (pal_cons (pel_tup (pal_cons pel_str pal_nil)) (pal_cons (pel_lst (pal_cons pel_str pal_nil)) (pal_cons pel_disp1i pal_nil))))))))))))))
  (pssl_cons (psl_expr (pel_append (pel_var (i := 7)) (pel_tup (pal_cons (pel_tup (pal_cons pel_str (pal_cons pel_str pal_nil))) pal_nil))))
  (pssl_cons (psl_set (i := 8) sc_law.nd (pel_call Fn__law_of (hr.mono (by decide)) rfl T.mg__law_of T.F__law_of.kp T.b__law_of dfl_nil (pal_cons (pel_var (i := 2)) (pal_cons (pel_var (i := 7)) pal_nil))))
  (pssl_cons (psl_for (passes_of rfl) rfl (pil_val (pel_lst (pal_cons (pel_var (i := 8)) (pal_cons (pel_call Fn__law_nested (hr.mono (by decide)) rfl T.mg__law_nested T.F__law_nested.kp T.b__law_nested dfl_nil (pal_cons (pel_var (i := 2)) (pal_cons (pel_var (i := 8)) pal_nil))) (pal_cons (pel_call Fn__law_nested (hr.mono (by decide)) rfl T.mg__law_nested T.F__law_nested.kp T.b__law_nested dfl_nil (pal_cons (pel_var (i := 2)) (pal_cons pel_str pal_nil))) pal_nil))))) (pgl_name (i := 9) sc_law.nd) (pssl_one (psl_if (PWL.pt (pwl_or (ptl_cmp (opl_ne hr.units) (pel_call Fn__law_row_of (hr.mono (by decide)) rfl T.mg__law_row_of T.F__law_row_of.kp T.b__law_row_of dfl_nil (pal_cons (pel_var (i := 9)) (pal_cons pel_int pal_nil))) pel_int) (pwl_or1 (ptl_cmp (opl_ne hr.units) (pel_call Fn__law_row_of (hr.mono (by decide)) rfl T.mg__law_row_of T.F__law_row_of.kp T.b__law_row_of dfl_nil (pal_cons (pel_var (i := 9)) (pal_cons pel_int pal_nil))) pel_int)))) (pssl_one (psl_ret pel_bl)) pssl_nil)))
  (pssl_cons (psl_asg (pel_tup (pal_cons (pel_lst (pal_cons (pel_op opl_add2 pel_int (pel_call Fn__law_pick (hr.mono (by decide)) rfl T.mg__law_pick T.F__law_pick.kp T.b__law_pick dfl_nil (pal_cons (pel_var (i := 2)) (pal_cons pel_int pal_nil)))) (pal_cons pel_int (pal_cons pel_int (pal_cons (pel_op opl_add2 pel_int (pel_call Fn__law_pick (hr.mono (by decide)) rfl T.mg__law_pick T.F__law_pick.kp T.b__law_pick dfl_nil (pal_cons (pel_var (i := 2)) (pal_cons pel_int pal_nil)))) pal_nil))))) (pal_cons (pel_callTy (cl_str) rfl T.n_str (by decide +kernel) (pal_cons (pel_op opl_add2 pel_int (pel_call Fn__law_pick (hr.mono (by decide)) rfl T.mg__law_pick T.F__law_pick.kp T.b__law_pick dfl_nil (pal_cons (pel_var (i := 2)) (pal_cons pel_int pal_nil)))) pal_nil)) pal_nil))) (pgl_tup (n := 2) rfl (pgsl_cons (pgl_name (i := 10) sc_law.nd) (pgsl_cons (pgl_name (i := 11) sc_law.nd) pgsl_nil))))
  (pssl_cons (psl_set (i := 12) sc_law.nd (pel_op opl_add2 (pel_lst (pal_cons (pel_op opl_add2 pel_str (pel_var (i := 11))) (pal_cons (pel_op opl_add2 pel_str (pel_var (i := 11))) (pal_cons pel_str (pal_cons (pel_op opl_add2 (pel_var (i := 11)) pel_str) (pal_cons pel_str pal_nil)))))) (pel_lc (own := [("_law_size", 13)]) rfl sc_law.nd (pil_val (pel_slice sll_any (pel_var (i := 10)) (pol_some pel_int) pol_none)) (blkOk_by (N := N_law) (sc := defScope s_law) (by decide +kernel)) (fun _ _ _ _ _ => (pgl_name (i := 13) sc_law.nd)) (fun _ _ _ _ _ => ptsl_nil) (fun _ _ _ _ _ => (pel_op opl_mulT (pel_var (i := 11)) (pel_var (i := 13)))))))
  (pssl_cons (psl_for (passes_of rfl) rfl (pil_val (pel_op opl_add2 (pel_var (i := 12)) (pel_lc (own := [("_law_size", 13)]) rfl sc_law.nd (pil_val (pel_slice sll_any (pel_var (i := 10)) (pol_some pel_int) pol_none)) (blkOk_by (N := N_law) (sc := defScope s_law) (by decide +kernel)) (fun _ _ _ _ _ => (pgl_name (i := 13) sc_law.nd)) (fun _ _ _ _ _ => ptsl_nil) (fun _ _ _ _ _ => (pel_op opl_mulT pel_str (pel_var (i := 13))))))) (pgl_name (i := 14) sc_law.nd) (pssl_one (psl_if (ptl_cmp (opl_ne hr.units) (pel_call Fn__law_row_of (hr.mono (by decide)) rfl T.mg__law_row_of T.F__law_row_of.kp T.b__law_row_of dfl_nil (pal_cons (pel_op opl_add2 pel_str (pel_var (i := 14))) (pal_cons pel_int pal_nil))) pel_int) (pssl_one (psl_ret pel_bl)) pssl_nil)))
  (pssl_one (psl_if (PWL.pt (pwl_or (ptl_cmp (opl_ne hr.units) (pel_call Fn__law_row_of (hr.mono (by decide)) rfl T.mg__law_row_of T.F__law_row_of.kp T.b__law_row_of dfl_nil (pal_cons (pel_op opl_add2 pel_str (pel_op opl_mulT (pel_var (i := 11)) (pel_ix ixl_seq (pel_var (i := 10)) pel_int))) (pal_cons pel_int pal_nil))) (pel_un unl_neg pel_int)) (pwl_or1 (ptl_cmp (opl_ne hr.units) (pel_call Fn__law_row_of (hr.mono (by decide)) rfl T.mg__law_row_of T.F__law_row_of.kp T.b__law_row_of dfl_nil (pal_cons (pel_op opl_add2 (pel_op opl_add2 (pel_var (i := 3)) pel_str) (pel_var (i := 3))) (pal_cons pel_int pal_nil))) (pel_un unl_neg pel_int))))) (pssl_one (psl_ret pel_bl)) pssl_nil))))))))))))))))
  (pssl_one (psl_ret pel_bl))), ?_⟩
  intro zs hzs
  refine shell2 (it := ⟨(List.range (if (if (zs.length : Int) < 8 then (zs.length : Int) else 8) > 1 then (if (zs.length : Int) < 8 then (zs.length : Int) else 8) else 1).toNat).map fun (i : Nat) => D.int (i : Int), fun _ => True⟩) ?hr (fun _ => trivial) ?ht ?h3
  case hr =>
    have hl : gLen [] [.lst (zs.map D.int)] = some (.int (zs.length : Int)) := by
      show some (D.int ((zs.map D.int).length : Int)) = _
      rw [List.length_map]
    have h1 : gMin2 [] [.int 8, .int (zs.length : Int)] = some (.int (if (zs.length : Int) < 8 then (zs.length : Int) else 8)) := rfl
    have h2 : gMax2 [] [.int 1, .int (if (zs.length : Int) < 8 then (zs.length : Int) else 8)] = some (.int (if (if (zs.length : Int) < 8 then (zs.length : Int) else 8) > 1 then (if (zs.length : Int) < 8 then (zs.length : Int) else 8) else 1)) := rfl
    refine range_ok (acons_ok (callb_ok (acons_ok rfl (acons_ok (callb_ok (acons_ok rfl (acons_ok (callb_ok (acons_ok rfl rfl) hl) rfl)) h1) rfl)) h2) rfl) ?_ ?_
    · split <;> split <;> omega
    · split <;> split <;> omega
  case h3 => exact fun S => ⟨S, ret_ok rfl⟩
  case ht =>
    intro d hd S
    obtain ⟨k, hk, rfl⟩ := List.mem_map.mp hd
    have hk7 : k ≤ 7 := by
      have := List.mem_range.mp hk
      split at this <;> split at this <;> omega
    obtain ⟨S1, e2, p2, l2, t2⟩ := Sp S zs (k : Int) hzs (by omega) (by omega)
    obtain ⟨y, S2, e3, ⟨x, hx, rfl⟩, p3, k3⟩ := So 0 S1 S.length (.lst (W6.map D.str)) 6 (fun d => ∃ x ∈ W6, d = .str x) p2 (by decide) rfl (by decide) (by decide) fun S' v _ v0 v1 => by
      obtain ⟨y, h1, h2⟩ := lst_at (S := S') (xs := W6.map D.str) v0 (show v < (6 : Int) from v1)
      obtain ⟨x, hx, rfl⟩ := List.mem_map.mp h2
      exact ⟨_, h1, x, hx, rfl⟩
    have hxl : x.length ≤ 12 := by
      have : ∀ x ∈ W6, x.length ≤ 12 := by decide
      exact this x hx
    have hW := List.all_eq_true.mp cW x hx
    unfold chkW at hW
    simp only [Bool.and_eq_true] at hW
    obtain ⟨hW1, hW2, hW3, hW4⟩ := hW
    have a1 := addB (S := S2) (i := "circle 0\nmember ") (j := x) (a := 16) (b := 12) (by decide) hxl (by decide)
    have a2 := addB (S := S2) (j := "\nbar ") (b := 5) a1.2 (by decide) (by decide)
    have a3 := addB (S := S2) (j := x) (b := 12) a2.2 hxl (by decide)
    have a4 := addB (S := S2) (j := " a\nyear\nyear\n  ") (b := 16) a3.2 (by decide) (by decide)
    have a5 := addB (S := S2) (j := x) (b := 12) a4.2 hxl (by decide)
    have a6 := addB (S := S2) (j := " > a") (b := 4) a5.2 (by decide) (by decide)
    have hg : "circle 0\nmember " ++ x ++ "\nbar " ++ x ++ " a\nyear\nyear\n  " ++ x ++ " > a" = good x := rfl
    have g6 := a6.1
    rw [hg] at g6
    have rg := row0 (S := S2) rfl (chkR_tells hW1)
    have r1 := row0 (S := S2) rfl (chkR_tells c1)
    have r2 := row1 (S := S2) rfl (chkR_tells c2)
    obtain ⟨Lc, hLc, tLc⟩ := list_of (cS S2 x hx) hW2
    obtain ⟨Ld, hLd, tLd⟩ := list_of (dS S2 x hx) hW3
    have hmul : gMulX S2 (.lst [.int (-1)]) (.int 3) = some (.lst [.int (-1), .int (-1), .int (-1)]) := by kernel_rfl
    have hne3 : gNe S2 (.lst [.int (-1), .int (-1), .int (-1)]) (.lst [.int (-1), .int (-1), .int (-1)]) = some (.bl false) := by kernel_rfl
    have hq12 : gMulS S1 (.str "q") (.int 12) = some (.str "qqqqqqqqqqqq") := by kernel_rfl
    have nei : ∀ (S : Sto) (r : Int), gNe S (.int r) (.int r) = some (.bl false) := fun S r => by
      rw [ne_ii, decide_eq_true rfl]
      rfl
    refine htE rfl (seqE (set_ok (call_ok (acons_ok rfl (acons_ok rfl rfl)) rfl e2)) (seqE (set_ok (call_ok (acons_ok rfl (acons_ok (lst_ok (acons_ok rfl (acons_ok rfl (acons_ok rfl (acons_ok rfl (acons_ok rfl (acons_ok (bin_ok rfl rfl hq12) rfl)))))) (by simp)) rfl)) rfl e3)) (seqE (set_ok (bin_ok (bin_ok (bin_ok (bin_ok (bin_ok (bin_ok rfl rfl a1.1) rfl a2.1) rfl a3.1) rfl a4.1) rfl a5.1) rfl g6))
      (seqE (if_ff (tru_b (bin_ok (lst_ok (acons_ok (call_ok (acons_ok rfl (acons_ok rfl rfl)) rfl rg) (acons_ok (call_ok (acons_ok rfl (acons_ok rfl rfl)) rfl r1) (acons_ok (call_ok (acons_ok rfl (acons_ok rfl rfl)) rfl r2) rfl))) (by simp)) (bin_ok (lst_ok (acons_ok rfl rfl) (by simp)) rfl hmul) hne3) rfl) rfl)
      (seqE (for_ok (iter_ok (call_ok (acons_ok rfl rfl) rfl hLc) rfl) (for_const trivial _ fun d hd => ?c1))
      (seqE (for_ok (iter_ok (call_ok (acons_ok rfl rfl) rfl hLd) rfl) (for_const trivial _ fun d hd => ?c2)) ?rest))))))
    case c1 =>
      obtain ⟨q, hq, rfl⟩ := List.mem_map.mp hd
      exact ⟨_, _, rfl, if_ff (tru_b (bin_ok (call_ok (acons_ok rfl (acons_ok rfl rfl)) rfl (row0 rfl (tLc q hq))) rfl (nei _ _)) rfl) rfl, rfl⟩
    case c2 =>
      obtain ⟨q, hq, rfl⟩ := List.mem_map.mp hd
      exact ⟨_, _, rfl, if_ff (tru_b (bin_ok (call_ok (acons_ok rfl (acons_ok rfl rfl)) rfl (row1 rfl (tLd q hq))) rfl (nei _ _)) rfl) rfl, rfl⟩
    case rest =>
      have hpow : gPow S2 (.int 10) (.int 29) = some (.int (10 ^ (29 : Int).toNat)) := pow_ii (by decide)
      have hj : S2.length ≠ S.length := by have := p3.lt; omega
      have hodd : ∀ d ∈ [D.non, .bl true, .bl false, .int 0, .int (-1), .int (10 ^ (29 : Int).toNat), .tup [], .lst [], .dct false [], .tup [.str "circle 0"], .lst [.str "circle 0"], .dct false [(.str "circle 0", .int 0)]] ++ [.tup [.tup [.str "a", .str "a"]]], below 0 d = true ∧ NotStr d := by
        intro d hd
        simp only [List.cons_append, List.nil_append, List.mem_cons, List.not_mem_nil, or_false] at hd
        rcases hd with rfl | rfl | rfl | rfl | rfl | rfl | rfl | rfl | rfl | rfl | rfl | rfl | rfl <;> exact ⟨rfl, rfl⟩
      have h12 : ([D.non, .bl true, .bl false, .int 0, .int (-1), .int (10 ^ (29 : Int).toNat), .tup [], .lst [], .dct false [], .tup [.str "circle 0"], .lst [.str "circle 0"], .dct false [(.str "circle 0", .int 0)]] : List D).length ≤ 1000 := by simp
      refine seqE (set_ok (lstN_ok (acons_ok rfl (acons_ok rfl (acons_ok rfl (acons_ok rfl (acons_ok rfl (acons_ok (bin_ok rfl rfl hpow) (acons_ok rfl (acons_ok rfl (acons_ok rfl (acons_ok rfl (acons_ok rfl (acons_ok rfl rfl)))))))))))) h12)) ?_
      have hl12 : ([D.non, .bl true, .bl false, .int 0, .int (-1), .int (10 ^ (29 : Int).toNat), .tup [], .lst [], .dct false [], .tup [.str "circle 0"], .lst [.str "circle 0"], .dct false [(.str "circle 0", .int 0)]] : List D).length = 12 := rfl
      generalize [D.non, .bl true, .bl false, .int 0, .int (-1), .int (10 ^ (29 : Int).toNat), .tup [], .lst [], .dct false [], .tup [.str "circle 0"], .lst [.str "circle 0"], .dct false [(.str "circle 0", .int 0)]] = o12 at hodd h12 hl12 ⊢
      refine seqE (expr_ok (bm_ok rfl is_ref (acons_ok rfl rfl) (stApp_snoc (by omega)))) ?_
      have hl13 : (o12 ++ [D.tup [.tup [.str "a", .str "a"]]]).length = 13 := by rw [List.length_append, hl12]; rfl
      generalize o12 ++ [D.tup [.tup [.str "a", .str "a"]]] = o13 at hodd hl13 ⊢
      have hg13 : gLen (S2 ++ [.lst o13]) [.ref S2.length] = some (.int 13) := by rw [len_ref snoc_get, hl13]; rfl
      obtain ⟨d0, S5, e9, ⟨b9, n9⟩, p5, k5⟩ := So (0 + 1) (S2 ++ [.lst o13]) S.length (.ref S2.length) 13 (fun d => below 0 d = true ∧ NotStr d) p3.push (by decide) hg13 (by decide) (by decide) fun S' v kS v0 v1 => by
        have hi : S'[S2.length]? = some (.lst o13) := kS.get snoc_get hj
        obtain ⟨y, h1, h2⟩ := at_mem (xs := o13) v0 (by rw [hl13]; exact v1)
        exact ⟨y, ix_ref hi h1, hodd y h2⟩
      obtain ⟨d1, S6, e10, b10, n10, p6, k6⟩ := Sn _ S5 S.length d0 p5 (by decide) b9
      obtain ⟨d2, S7, e11, b11, n11, p7, k7⟩ := Sn _ S6 S.length (.str "circle 0") p6 (by decide) rfl
      have three : ∀ d ∈ [d0, d1, d2], below 0 d = true ∧ NotStr d := by
        intro d hd
        simp only [List.mem_cons, List.not_mem_nil, or_false] at hd
        rcases hd with rfl | rfl | rfl
        · exact ⟨b9, n9⟩
        · exact ⟨b10, n10⟩
        · exact ⟨b11, n11⟩
      refine seqE (set_ok (call_ok (acons_ok rfl (acons_ok rfl rfl)) rfl e9)) ?_
      refine seqE (for_ok (iter_ok (lst_ok (acons_ok rfl (acons_ok (call_ok (acons_ok rfl (acons_ok rfl rfl)) rfl e10) (acons_ok (call_ok (acons_ok rfl (acons_ok rfl rfl)) rfl e11) rfl))) (by simp)) rfl) (for_const trivial _ fun d hd => ⟨_, _, rfl, if_ff (or_ff (tru_b (bin_ok (call_ok (acons_ok rfl (acons_ok rfl rfl)) rfl (row0 (three d hd).1 (rt (three d hd).2))) rfl (nei _ _)) rfl) (tru_b (bin_ok (call_ok (acons_ok rfl (acons_ok rfl rfl)) rfl (row1 (three d hd).1 (dt (three d hd).2))) rfl (nei _ _)) rfl)) rfl, rfl⟩)) ?_
      obtain ⟨v1, S8, f1, v10, v11, p8, k8⟩ := Sk _ S7 S.length 30 p7 (by decide) (by decide) (by decide)
      obtain ⟨v2, S9, f2, v20, v21, p9, k9⟩ := Sk _ S8 S.length 3000 p8 (by decide) (by decide) (by decide)
      obtain ⟨v3, S10, f3, v30, v31, p10, k10⟩ := Sk _ S9 S.length 9 p9 (by decide) (by decide) (by decide)
      obtain ⟨t, ht9, hst⟩ : ∃ t ∈ N9, gStr S10 [.int (1 + v3)] = some (.str t) := by
        have : v3 = 0 ∨ v3 = 1 ∨ v3 = 2 ∨ v3 = 3 ∨ v3 = 4 ∨ v3 = 5 ∨ v3 = 6 ∨ v3 = 7 ∨ v3 = 8 := by omega
        rcases this with rfl | rfl | rfl | rfl | rfl | rfl | rfl | rfl | rfl
        · exact ⟨"1", by decide, by kernel_rfl⟩
        · exact ⟨"2", by decide, by kernel_rfl⟩
        · exact ⟨"3", by decide, by kernel_rfl⟩
        · exact ⟨"4", by decide, by kernel_rfl⟩
        · exact ⟨"5", by decide, by kernel_rfl⟩
        · exact ⟨"6", by decide, by kernel_rfl⟩
        · exact ⟨"7", by decide, by kernel_rfl⟩
        · exact ⟨"8", by decide, by kernel_rfl⟩
        · exact ⟨"9", by decide, by kernel_rfl⟩
      refine seqE (asg_ok (tup_ok (acons_ok (lst_ok (acons_ok (bin_ok rfl (call_ok (acons_ok rfl (acons_ok rfl rfl)) rfl f1) add2_ii) (acons_ok rfl (acons_ok rfl (acons_ok (bin_ok rfl (call_ok (acons_ok rfl (acons_ok rfl rfl)) rfl f2) add2_ii) rfl)))) (by simp)) (acons_ok (callb_ok (acons_ok (bin_ok rfl (call_ok (acons_ok rfl (acons_ok rfl rfl)) rfl f3) add2_ii) rfl) hst) rfl)) (by simp)) rfl) ?_
      have hN := List.all_eq_true.mp cN t ht9
      unfold chkN at hN
      simp only [Bool.and_eq_true] at hN
      obtain ⟨hN1, hN2, hN3, hN4⟩ := hN
      have htl : t.length ≤ 1 := by
        have : ∀ t ∈ N9, t.length ≤ 1 := by decide
        exact this t ht9
      obtain ⟨c, hc, hc10⟩ := n9_one t ht9
      have b1 := addB (S := S10) (i := "0") (j := t) (a := 1) (b := 1) (by decide) htl (by decide)
      have b2 := addB (S := S10) (i := "-") (j := t) (a := 1) (b := 1) (by decide) htl (by decide)
      have b3 := addB (S := S10) (i := t) (j := "x") (a := 1) (b := 1) htl (by decide) (by decide)
      have sizes : ∀ v ∈ [(31 : Int), 3900, 32 + v2], 31 ≤ v ∧ v ≤ 5000 := by
        intro v hv
        simp only [List.mem_cons, List.not_mem_nil, or_false] at hv
        rcases hv with rfl | rfl | rfl <;> omega
      have hsl : ∀ S : Sto, gSlice S (.lst [.int (1 + v1), .int 31, .int 3900, .int (32 + v2)]) (some 1) none = some (.lst ([(31 : Int), 3900, 32 + v2].map D.int)) := fun S => rfl
      have hcat : gAdd2 S10 (.lst [.str ("0" ++ t), .str ("-" ++ t), .str "+0", .str (t ++ "x"), .str "00"]) (.lst ([(31 : Int), 3900, 32 + v2].map fun v => D.str (strRep t v))) = some (.lst ((["0" ++ t, "-" ++ t, "+0", t ++ "x", "00"] ++ [(31 : Int), 3900, 32 + v2].map (strRep t)).map D.str)) := catL rfl rfl (by simp) (by simp)
      refine seqE (set_ok (bin_ok (lst_ok (acons_ok (bin_ok rfl rfl b1.1) (acons_ok (bin_ok rfl rfl b2.1) (acons_ok rfl (acons_ok (bin_ok rfl rfl b3.1) (acons_ok rfl rfl))))) (by simp)) (comp_okL (iter_ok (slice_ok rfl (osome_ok rfl) rfl (hsl _)) rfl) (by simp) (comp_map (enc := D.int) (f := fun v => D.str (strRep t v)) trivial [(31 : Int), 3900, 32 + v2] fun v hv => ⟨_, rfl, bin_ok rfl rfl (by rw [hc]; exact (mulT_ok (by have := sizes v hv; omega) (sizes v hv).2).1)⟩)) hcat)) ?_
      obtain ⟨bad, hbad⟩ : ∃ bad : List Str, bad = (["0" ++ t, "-" ++ t, "+0", t ++ "x", "00"] ++ [(31 : Int), 3900, 32 + v2].map (strRep t)) ++ [(31 : Int), 3900, 32 + v2].map (strRep "0") := ⟨_, rfl⟩
      have hcat2 : gAdd2 S10 (.lst ((["0" ++ t, "-" ++ t, "+0", t ++ "x", "00"] ++ [(31 : Int), 3900, 32 + v2].map (strRep t)).map D.str)) (.lst ([(31 : Int), 3900, 32 + v2].map fun v => D.str (strRep "0" v))) = some (.lst (bad.map D.str)) := catL rfl rfl (by rw [hbad]; simp) (by rw [hbad]; simp)
      have reps : ∀ (c : Nat) (v : Int), c ≠ 10 → v ∈ [(31 : Int), 3900, 32 + v2] → (strRep ⟨#[c]⟩ v).length ≤ 5000 ∧ Tells T.C_NoText rc (.str ("circle " ++ strRep ⟨#[c]⟩ v)) 0 := by
        intro c v hc hv
        have hs := sizes v hv
        obtain ⟨_, m2, m3⟩ := mulT_ok (S := S10) (c := c) (n := v) (by omega) hs.2
        exact ⟨by omega, rl (by omega) (by omega) (m3 hc)⟩
      have hall : ∀ z ∈ bad, z.length ≤ 5000 ∧ Tells T.C_NoText rc (.str ("circle " ++ z)) 0 := by
        intro z hz
        rw [hbad] at hz
        simp only [List.mem_append, List.mem_cons, List.not_mem_nil, or_false, List.mem_map] at hz
        rcases hz with ((rfl | rfl | rfl | rfl | rfl) | ⟨v, hv, rfl⟩) | ⟨v, hv, rfl⟩
        · exact ⟨by have := b1.2; omega, chkR_tells hN1⟩
        · exact ⟨by have := b2.2; omega, chkR_tells hN2⟩
        · exact ⟨by decide, chkR_tells c3⟩
        · exact ⟨by have := b3.2; omega, chkR_tells hN3⟩
        · exact ⟨by decide, chkR_tells c4⟩
        · rw [hc]
          exact reps c v hc10 (by simpa using hv)
        · exact reps 48 v (by decide) (by simpa using hv)
      refine seqE (for_ok (iter_ok (bin_ok rfl (comp_okL (iter_ok (slice_ok rfl (osome_ok rfl) rfl (hsl _)) rfl) (by simp) (comp_map (enc := D.int) (f := fun v => D.str (strRep "0" v)) trivial [(31 : Int), 3900, 32 + v2] fun v hv => ⟨_, rfl, bin_ok rfl rfl (mulT_ok (c := 48) (by have := sizes v hv; omega) (sizes v hv).2).1⟩)) hcat2) rfl) (for_const trivial _ fun d hd => ?c3)) ?_
      case c3 =>
        obtain ⟨z, hz, rfl⟩ := List.mem_map.mp hd
        have hc := addB (S := S10) (i := "circle ") (j := z) (a := 7) (b := 5000) (by decide) (hall z hz).1 (by decide)
        exact ⟨_, _, rfl, if_ff (tru_b (bin_ok (call_ok (acons_ok (bin_ok rfl rfl hc.1) (acons_ok rfl rfl)) rfl (row0 rfl (hall z hz).2)) rfl (nei _ _)) rfl) rfl, rfl⟩
      have hv1 : ((v1.toNat : Nat) : Int) + 1 = 1 + v1 := by omega
      have hN5 := List.all_eq_true.mp hN4 v1.toNat (List.mem_range.mpr (by omega))
      rw [hv1] at hN5
      have hix : ∀ S : Sto, gIx S (.lst [.int (1 + v1), .int 31, .int 3900, .int (32 + v2)]) (.int 0) = some (.int (1 + v1)) := fun S => rfl
      have hm := mulT_ok (S := S10) (c := c) (n := 1 + v1) (by omega) (by omega)
      rw [← hc] at hm
      have hcl := addB (S := S10) (i := "circle ") (j := strRep t (1 + v1)) (a := 7) (b := 30) (by decide) (by rw [hm.2.1]; omega) (by decide)
      have x1 := addB (S := S10) (i := x) (j := " > ") (a := 12) (b := 3) hxl (by decide) (by decide)
      have x2 := addB (S := S10) (j := x) (b := 12) x1.2 hxl (by decide)
      have hneg : gNeg S10 (.int 1) = some (.int (-1)) := rfl
      exact endE (if_ff (or_ff (tru_b (bin_ok (call_ok (acons_ok (bin_ok rfl (bin_ok rfl (bin_ok rfl rfl (hix _)) hm.1) hcl.1) (acons_ok rfl rfl)) rfl (row0 rfl (chkR_tells hN5))) rfl (nei _ _)) rfl) (tru_b (bin_ok (call_ok (acons_ok (bin_ok (bin_ok rfl rfl x1.1) rfl x2.1) (acons_ok rfl rfl)) rfl (row1 rfl (chkR_tells hW4))) rfl (nei _ _)) rfl)) rfl) rfl
end
end K60

namespace K60
open PySem PySem.Spec PyProof.Rows L2 MP TL
section
variable {P : Program} {w : World} {K : PySem.W.Frag} {mg : Str → Option Value} {base : Heap}
theorem fA1 (T : T60 w.params K mg) (h1 : T.C_CircleReader = 393) (h2 : T.C_Circle = 243) (h3 : T.C_Drawing = 316) (h4 : T.C_NoText = 108) : chkR T.C_NoText (pk_read_circle (P := P) (w := w) (base := base) T).1 "circle 0" (-1) = true := by
  cases T with
  | mk Tf Tx d e n a b c dd r1 r2 r3 r4 =>
    cases Tf
    cases Tx
    dsimp only at h1 h2 h3 h4
    subst h1 h2 h3 h4
    kernel_rfl

theorem fA2 (T : T60 w.params K mg) (h1 : T.C_CircleReader = 393) (h2 : T.C_Circle = 243) (h3 : T.C_Drawing = 316) (h4 : T.C_NoText = 108) : chkR T.C_NoText (pk_read_drawing (P := P) (w := w) (base := base) T).1 "" (-1) = true := by
  cases T with
  | mk Tf Tx d e n a b c dd r1 r2 r3 r4 =>
    cases Tf
    cases Tx
    dsimp only at h1 h2 h3 h4
    subst h1 h2 h3 h4
    kernel_rfl

theorem fA3 (T : T60 w.params K mg) (h1 : T.C_CircleReader = 393) (h2 : T.C_Circle = 243) (h3 : T.C_Drawing = 316) (h4 : T.C_NoText = 108) : chkR T.C_NoText (pk_read_circle (P := P) (w := w) (base := base) T).1 "circle +0" 0 = true := by
  cases T with
  | mk Tf Tx d e n a b c dd r1 r2 r3 r4 =>
    cases Tf
    cases Tx
    dsimp only at h1 h2 h3 h4
    subst h1 h2 h3 h4
    kernel_rfl

theorem fA4 (T : T60 w.params K mg) (h1 : T.C_CircleReader = 393) (h2 : T.C_Circle = 243) (h3 : T.C_Drawing = 316) (h4 : T.C_NoText = 108) : chkR T.C_NoText (pk_read_circle (P := P) (w := w) (base := base) T).1 "circle 00" 0 = true := by
  cases T with
  | mk Tf Tx d e n a b c dd r1 r2 r3 r4 =>
    cases Tf
    cases Tx
    dsimp only at h1 h2 h3 h4
    subst h1 h2 h3 h4
    kernel_rfl
end
end K60

namespace K60
open PySem PySem.Spec PyProof.Rows L2 MP TL
section
variable {P : Program} {w : World} {K : PySem.W.Frag} {mg : Str → Option Value} {base : Heap}
theorem fW0 (T : T60 w.params K mg) (h1 : T.C_CircleReader = 393) (h2 : T.C_Circle = 243) (h3 : T.C_Drawing = 316) (h4 : T.C_NoText = 108) : chkW T.C_NoText (pk_read_circle (P := P) (w := w) (base := base) T).1 (pk_read_drawing (P := P) (w := w) (base := base) T).1 (pk__law_circles (P := P) (w := w) (base := base) T).1 (pk__law_drawings (P := P) (w := w) (base := base) T).1 "b" = true := by
  cases T with
  | mk Tf Tx d e n a b c dd r1 r2 r3 r4 =>
    cases Tf
    cases Tx
    dsimp only at h1 h2 h3 h4
    subst h1 h2 h3 h4
    kernel_rfl
end
end K60

namespace K60
open PySem PySem.Spec PyProof.Rows L2 MP TL
section
variable {P : Program} {w : World} {K : PySem.W.Frag} {mg : Str → Option Value} {base : Heap}
theorem fW1 (T : T60 w.params K mg) (h1 : T.C_CircleReader = 393) (h2 : T.C_Circle = 243) (h3 : T.C_Drawing = 316) (h4 : T.C_NoText = 108) : chkW T.C_NoText (pk_read_circle (P := P) (w := w) (base := base) T).1 (pk_read_drawing (P := P) (w := w) (base := base) T).1 (pk__law_circles (P := P) (w := w) (base := base) T).1 (pk__law_drawings (P := P) (w := w) (base := base) T).1 "zy" = true := by
  cases T with
  | mk Tf Tx d e n a b c dd r1 r2 r3 r4 =>
    cases Tf
    cases Tx
    dsimp only at h1 h2 h3 h4
    subst h1 h2 h3 h4
    kernel_rfl
end
end K60

namespace K60
open PySem PySem.Spec PyProof.Rows L2 MP TL
section
variable {P : Program} {w : World} {K : PySem.W.Frag} {mg : Str → Option Value} {base : Heap}
theorem fW2 (T : T60 w.params K mg) (h1 : T.C_CircleReader = 393) (h2 : T.C_Circle = 243) (h3 : T.C_Drawing = 316) (h4 : T.C_NoText = 108) : chkW T.C_NoText (pk_read_circle (P := P) (w := w) (base := base) T).1 (pk_read_drawing (P := P) (w := w) (base := base) T).1 (pk__law_circles (P := P) (w := w) (base := base) T).1 (pk__law_drawings (P := P) (w := w) (base := base) T).1 "member" = true := by
  cases T with
  | mk Tf Tx d e n a b c dd r1 r2 r3 r4 =>
    cases Tf
    cases Tx
    dsimp only at h1 h2 h3 h4
    subst h1 h2 h3 h4
    kernel_rfl
end
end K60

namespace K60
open PySem PySem.Spec PyProof.Rows L2 MP TL
section
variable {P : Program} {w : World} {K : PySem.W.Frag} {mg : Str → Option Value} {base : Heap}
theorem fW3 (T : T60 w.params K mg) (h1 : T.C_CircleReader = 393) (h2 : T.C_Circle = 243) (h3 : T.C_Drawing = 316) (h4 : T.C_NoText = 108) : chkW T.C_NoText (pk_read_circle (P := P) (w := w) (base := base) T).1 (pk_read_drawing (P := P) (w := w) (base := base) T).1 (pk__law_circles (P := P) (w := w) (base := base) T).1 (pk__law_drawings (P := P) (w := w) (base := base) T).1 "year" = true := by
  cases T with
  | mk Tf Tx d e n a b c dd r1 r2 r3 r4 =>
    cases Tf
    cases Tx
    dsimp only at h1 h2 h3 h4
    subst h1 h2 h3 h4
    kernel_rfl
end
end K60

namespace K60
open PySem PySem.Spec PyProof.Rows L2 MP TL
section
variable {P : Program} {w : World} {K : PySem.W.Frag} {mg : Str → Option Value} {base : Heap}
theorem fW4 (T : T60 w.params K mg) (h1 : T.C_CircleReader = 393) (h2 : T.C_Circle = 243) (h3 : T.C_Drawing = 316) (h4 : T.C_NoText = 108) : chkW T.C_NoText (pk_read_circle (P := P) (w := w) (base := base) T).1 (pk_read_drawing (P := P) (w := w) (base := base) T).1 (pk__law_circles (P := P) (w := w) (base := base) T).1 (pk__law_drawings (P := P) (w := w) (base := base) T).1 "circle" = true := by
  cases T with
  | mk Tf Tx d e n a b c dd r1 r2 r3 r4 =>
    cases Tf
    cases Tx
    dsimp only at h1 h2 h3 h4
    subst h1 h2 h3 h4
    kernel_rfl
end
end K60

namespace K60
open PySem PySem.Spec PyProof.Rows L2 MP TL
section
variable {P : Program} {w : World} {K : PySem.W.Frag} {mg : Str → Option Value} {base : Heap}
theorem fW5 (T : T60 w.params K mg) (h1 : T.C_CircleReader = 393) (h2 : T.C_Circle = 243) (h3 : T.C_Drawing = 316) (h4 : T.C_NoText = 108) : chkW T.C_NoText (pk_read_circle (P := P) (w := w) (base := base) T).1 (pk_read_drawing (P := P) (w := w) (base := base) T).1 (pk__law_circles (P := P) (w := w) (base := base) T).1 (pk__law_drawings (P := P) (w := w) (base := base) T).1 "qqqqqqqqqqqq" = true := by
  cases T with
  | mk Tf Tx d e n a b c dd r1 r2 r3 r4 =>
    cases Tf
    cases Tx
    dsimp only at h1 h2 h3 h4
    subst h1 h2 h3 h4
    kernel_rfl
end
end K60

namespace K60
open PySem PySem.Spec PyProof.Rows L2 MP TL
section
variable {P : Program} {w : World} {K : PySem.W.Frag} {mg : Str → Option Value} {base : Heap}
theorem fN0 (T : T60 w.params K mg) (h1 : T.C_CircleReader = 393) (h2 : T.C_Circle = 243) (h3 : T.C_Drawing = 316) (h4 : T.C_NoText = 108) : chkN T.C_NoText (pk_read_circle (P := P) (w := w) (base := base) T).1 "1" = true := by
  cases T with
  | mk Tf Tx d e n a b c dd r1 r2 r3 r4 =>
    cases Tf
    cases Tx
    dsimp only at h1 h2 h3 h4
    subst h1 h2 h3 h4
    kernel_rfl
end
end K60

namespace K60
open PySem PySem.Spec PyProof.Rows L2 MP TL
section
variable {P : Program} {w : World} {K : PySem.W.Frag} {mg : Str → Option Value} {base : Heap}
theorem fN1 (T : T60 w.params K mg) (h1 : T.C_CircleReader = 393) (h2 : T.C_Circle = 243) (h3 : T.C_Drawing = 316) (h4 : T.C_NoText = 108) : chkN T.C_NoText (pk_read_circle (P := P) (w := w) (base := base) T).1 "2" = true := by
  cases T with
  | mk Tf Tx d e n a b c dd r1 r2 r3 r4 =>
    cases Tf
    cases Tx
    dsimp only at h1 h2 h3 h4
    subst h1 h2 h3 h4
    kernel_rfl
end
end K60

namespace K60
open PySem PySem.Spec PyProof.Rows L2 MP TL
section
variable {P : Program} {w : World} {K : PySem.W.Frag} {mg : Str → Option Value} {base : Heap}
theorem fN2 (T : T60 w.params K mg) (h1 : T.C_CircleReader = 393) (h2 : T.C_Circle = 243) (h3 : T.C_Drawing = 316) (h4 : T.C_NoText = 108) : chkN T.C_NoText (pk_read_circle (P := P) (w := w) (base := base) T).1 "3" = true := by
  cases T with
  | mk Tf Tx d e n a b c dd r1 r2 r3 r4 =>
    cases Tf
    cases Tx
    dsimp only at h1 h2 h3 h4
    subst h1 h2 h3 h4
    kernel_rfl
end
end K60

namespace K60
open PySem PySem.Spec PyProof.Rows L2 MP TL
section
variable {P : Program} {w : World} {K : PySem.W.Frag} {mg : Str → Option Value} {base : Heap}
theorem fN3 (T : T60 w.params K mg) (h1 : T.C_CircleReader = 393) (h2 : T.C_Circle = 243) (h3 : T.C_Drawing = 316) (h4 : T.C_NoText = 108) : chkN T.C_NoText (pk_read_circle (P := P) (w := w) (base := base) T).1 "4" = true := by
  cases T with
  | mk Tf Tx d e n a b c dd r1 r2 r3 r4 =>
    cases Tf
    cases Tx
    dsimp only at h1 h2 h3 h4
    subst h1 h2 h3 h4
    kernel_rfl
end
end K60

namespace K60
open PySem PySem.Spec PyProof.Rows L2 MP TL
section
variable {P : Program} {w : World} {K : PySem.W.Frag} {mg : Str → Option Value} {base : Heap}
theorem fN4 (T : T60 w.params K mg) (h1 : T.C_CircleReader = 393) (h2 : T.C_Circle = 243) (h3 : T.C_Drawing = 316) (h4 : T.C_NoText = 108) : chkN T.C_NoText (pk_read_circle (P := P) (w := w) (base := base) T).1 "5" = true := by
  cases T with
  | mk Tf Tx d e n a b c dd r1 r2 r3 r4 =>
    cases Tf
    cases Tx
    dsimp only at h1 h2 h3 h4
    subst h1 h2 h3 h4
    kernel_rfl
end
end K60

namespace K60
open PySem PySem.Spec PyProof.Rows L2 MP TL
section
variable {P : Program} {w : World} {K : PySem.W.Frag} {mg : Str → Option Value} {base : Heap}
theorem fN5 (T : T60 w.params K mg) (h1 : T.C_CircleReader = 393) (h2 : T.C_Circle = 243) (h3 : T.C_Drawing = 316) (h4 : T.C_NoText = 108) : chkN T.C_NoText (pk_read_circle (P := P) (w := w) (base := base) T).1 "6" = true := by
  cases T with
  | mk Tf Tx d e n a b c dd r1 r2 r3 r4 =>
    cases Tf
    cases Tx
    dsimp only at h1 h2 h3 h4
    subst h1 h2 h3 h4
    kernel_rfl
end
end K60

namespace K60
open PySem PySem.Spec PyProof.Rows L2 MP TL
section
variable {P : Program} {w : World} {K : PySem.W.Frag} {mg : Str → Option Value} {base : Heap}
theorem fN6 (T : T60 w.params K mg) (h1 : T.C_CircleReader = 393) (h2 : T.C_Circle = 243) (h3 : T.C_Drawing = 316) (h4 : T.C_NoText = 108) : chkN T.C_NoText (pk_read_circle (P := P) (w := w) (base := base) T).1 "7" = true := by
  cases T with
  | mk Tf Tx d e n a b c dd r1 r2 r3 r4 =>
    cases Tf
    cases Tx
    dsimp only at h1 h2 h3 h4
    subst h1 h2 h3 h4
    kernel_rfl
end
end K60

namespace K60
open PySem PySem.Spec PyProof.Rows L2 MP TL
section
variable {P : Program} {w : World} {K : PySem.W.Frag} {mg : Str → Option Value} {base : Heap}
theorem fN7 (T : T60 w.params K mg) (h1 : T.C_CircleReader = 393) (h2 : T.C_Circle = 243) (h3 : T.C_Drawing = 316) (h4 : T.C_NoText = 108) : chkN T.C_NoText (pk_read_circle (P := P) (w := w) (base := base) T).1 "8" = true := by
  cases T with
  | mk Tf Tx d e n a b c dd r1 r2 r3 r4 =>
    cases Tf
    cases Tx
    dsimp only at h1 h2 h3 h4
    subst h1 h2 h3 h4
    kernel_rfl
end
end K60

namespace K60
open PySem PySem.Spec PyProof.Rows L2 MP TL
section
variable {P : Program} {w : World} {K : PySem.W.Frag} {mg : Str → Option Value} {base : Heap}
theorem fN8 (T : T60 w.params K mg) (h1 : T.C_CircleReader = 393) (h2 : T.C_Circle = 243) (h3 : T.C_Drawing = 316) (h4 : T.C_NoText = 108) : chkN T.C_NoText (pk_read_circle (P := P) (w := w) (base := base) T).1 "9" = true := by
  cases T with
  | mk Tf Tx d e n a b c dd r1 r2 r3 r4 =>
    cases Tf
    cases Tx
    dsimp only at h1 h2 h3 h4
    subst h1 h2 h3 h4
    kernel_rfl
end
end K60

namespace K60
open PySem PySem.Spec PyProof.Rows L2 MP TL
section
variable {P : Program} {w : World} {K : PySem.W.Frag} {mg : Str → Option Value} {base : Heap}
theorem chk_all (T : T60 w.params K mg) (h1 : T.C_CircleReader = 393) (h2 : T.C_Circle = 243) (h3 : T.C_Drawing = 316) (h4 : T.C_NoText = 108) : ChkAll (P := P) (w := w) (base := base) T = true := by
  unfold ChkAll
  dsimp only
  simp only [W6, N9, List.all_cons, List.all_nil, Bool.and_true, Bool.and_eq_true]
  exact ⟨fA1 T h1 h2 h3 h4, fA2 T h1 h2 h3 h4, fA3 T h1 h2 h3 h4, fA4 T h1 h2 h3 h4, ⟨fW0 T h1 h2 h3 h4, fW1 T h1 h2 h3 h4, fW2 T h1 h2 h3 h4, fW3 T h1 h2 h3 h4, fW4 T h1 h2 h3 h4, fW5 T h1 h2 h3 h4⟩, ⟨fN0 T h1 h2 h3 h4, fN1 T h1 h2 h3 h4, fN2 T h1 h2 h3 h4, fN3 T h1 h2 h3 h4, fN4 T h1 h2 h3 h4, fN5 T h1 h2 h3 h4, fN6 T h1 h2 h3 h4, fN7 T h1 h2 h3 h4, fN8 T h1 h2 h3 h4⟩⟩
end
end K60

namespace MP
open PySem PySem.Spec PyProof.Rows L2
theorem dfl3 {K : PySem.W.Frag} {T : Addr} {a b c cls : Value} {n : Nat} {dd : Option Addr} {sl : Array (Option Value)} (h : K.lookup T = some ⟨cls, dd, .seq #[a, b, c] n, sl⟩) (ha : a = .none) (hb : b = .none) (hc : ∃ t, c = .int 1 t) : DflV K (.ref T) [.non, .non, .int 1] :=
  .inr ⟨by simp, T, _, [a, b, c], n, rfl, h, rfl, .cons ha (.cons hb (.cons hc .nil))⟩
end MP
namespace K60
open PySem PySem.Spec PyProof.Rows L2 MP
def spLaw (K : PySem.W.Frag) : Sp := fun vs H Q _ => ∃ (a : Addr) (ns : List Int), vs = [.ref a] ∧ SqL K H a (ns.map V.int) ∧ ns.length ≤ 63 ∧ ∀ H', Q (.bl true) H'
theorem sr_nil {K : PySem.W.Frag} {H : Hp} : SR K [] H [] := ⟨List.nodup_nil, rfl, fun i a o h => by simp at h⟩
theorem vr_script {K : PySem.W.Frag} {H : Hp} {a : Addr} {ns : List Int} (h : SqL K H a (ns.map V.int)) : VR K [] H (.ref a) (.lst (ns.map D.int)) := by
  rcases h with h | ⟨o, its, n, hk, h1, h2, h3, h4, h5⟩
  · exact .lst (by simp) h VRs.of_ints
  · exact .lstK hk h1 h2 h3 h4 h5 VRs.of_ints
section
variable {P : Program} {w : World} {K : PySem.W.Frag} {mg : Str → Option Value} {base : Heap}
theorem law_fn (T : T60 w.params K mg) (hchk : ∀ base : Heap, ChkAll (P := P) (w := w) (base := base) T = true) : MP.FnOk P w K mg base (L2.CX P w) 9 T.f_law T.fd_law ["_law_script"] (spLaw K) := by
  obtain ⟨g, Fn, Sl⟩ := ok_law (P := P) (w := w) (base := base) T (hchk base)
  refine MP.FnOk.imp Fn fun vs H Q E ⟨a, ns, e, hS, hl, k⟩ => ?_
  subst e
  obtain ⟨S', q⟩ := Sl ns hl
  have key : spL K g 1 [.ref a] H Q E := by
    refine ⟨rfl, [], [], [.lst (ns.map D.int)], sr_nil, .cons (vr_script hS) .nil, ?_, ?_, ?_⟩
    · rw [q]; intro z; cases z
    · intro d S2 q2 v H' z
      rw [q] at q2
      cases q2
      obtain ⟨m', e, x, w⟩ := z
      cases w
      exact k H'
    · intro C fs S2 q2
      rw [q] at q2
      cases q2
  exact key
theorem all_ {l : PySem.W.OpenLaw} {w : World} {K : PySem.W.Frag} {mg : Str → Option Value} {fa : Addr} (hfa : mg "law" = some (.ref fa)) (T : T60 w.params K mg) (hchk : ∀ base : Heap, ChkAll (P := l.prog) (w := w) (base := base) T = true) :
    ∃ fd : FuncData, (∀ (s : Shared) (u : Value), BindsTo s fd ⟨[u], []⟩ [("_law_script", u)]) ∧ ∀ base : Heap, K.In base → base.Ns mainGlobals mg → MP.FnOk l.prog w K mg base (L2.CX l.prog w) 9 fa fd ["_law_script"] (spLaw K) := by
  have e := hfa.symm.trans T.mg_law
  cases e
  refine ⟨T.fd_law, fun s u => ?_, fun base _ _ => law_fn T hchk⟩
  obtain ⟨oc, od, kV, doc, pm, an, cdv, ct, osl, e, lk, hcd⟩ := T.F_law.ex
  rw [e]
  exact .of_eq rfl
end
theorem allE {l : PySem.W.OpenLaw} {w : World} {K : PySem.W.Frag} {mg : Str → Option Value} {fa : Addr} (hfa : mg "law" = some (.ref fa)) (T : T60 w.params K mg) (e1 : T.C_CircleReader = 393) (e2 : T.C_Circle = 243) (e3 : T.C_Drawing = 316) (e4 : T.C_NoText = 108) :
    ∃ fd : FuncData, (∀ (s : Shared) (u : Value), BindsTo s fd ⟨[u], []⟩ [("_law_script", u)]) ∧ ∀ base : Heap, K.In base → base.Ns mainGlobals mg → MP.FnOk l.prog w K mg base (L2.CX l.prog w) 9 fa fd ["_law_script"] (spLaw K) := all_ hfa T fun base => chk_all (base := base) T e1 e2 e3 e4
theorem walk {l : PySem.W.OpenLaw} {q : Program} {loose : List Str} {XP : (Str → Option Value) → Heap → Prop} {YP : World → Heap → Prop} {d : DefRec} {K : Params → PySem.W.Frag} (hn : l.most = some 63) (hdf : d.params.defaults = [])
    (hY : ∀ (w : World) (h : Heap), YP w h → (K w.params).In h)
    (F : ∀ (w : World) (mg : Str → Option Value) (fa : Addr) (h : Heap), (K w.params).In h → h.Ns mainGlobals mg → mg d.name = some (.ref fa) →
      ∃ fd : FuncData, (∀ (s : Shared) (u : Value), BindsTo s fd ⟨[u], []⟩ [("_law_script", u)]) ∧ ∀ base : Heap, (K w.params).In base → base.Ns mainGlobals mg → MP.FnOk l.prog w (K w.params) mg base (L2.CX l.prog w) 9 fa fd ["_law_script"] (spLaw (K w.params))) :
    PySem.W.WalkO q loose XP YP l.row.toRowW d [] (fun f vs => PySem.call f vs) :=
  MP.walk_ofG (n := 63) (k := 9) (x := "_law_script") (CX := fun w => L2.CX l.prog w) (sp := fun w => spLaw (K w.params)) hn (by decide) hdf (room_caller ⟨rfl, by decide, by decide⟩) hY F (fun _ _ a ns hl _ _ hS => ⟨a, ns, rfl, hS, hl, fun _ => rfl⟩) fun _ _ _ _ _ z => by
    obtain ⟨_, _, _, _, _, _, _, _, _, _, _, _, hE⟩ := z
    exact hE
end K60
open PySem PySem.W PyProof.Rows
set_option maxRecDepth 100000 in
set_option maxHeartbeats 0 in
theorem PySem.Challenge.cw_lotgivers_k60_texts_of_anything_holds : PySem.Challenge.rw_lotgivers_k60_texts_of_anything.Holds := by
  w_on; o_law; k_head; (case hw => w_witness2)
  k_fill
  refine K60.walk (l := PySem.Challenge.rw_lotgivers_k60_texts_of_anything) rfl rfl (fun w h Y => PySem.W.kIn_of Y) ?F
  case F =>
    intro w mg fa h KX G hmg
    refine' K60.allE hmg (K60.T60_mk KX G (K60.T60f_mk KX G ?aC_Drawing ?aC_Circle ?aC_CircleReader ?a_is_name ?l_is_name ?c_is_name ?k_is_name ?a_is_pair ?l_is_pair ?c_is_pair ?k_is_pair ?a_does_rise ?l_does_rise ?c_does_rise ?k_does_rise ?a_are_pairs ?l_are_pairs ?c_are_pairs ?k_are_pairs ?a_Circle___init__ ?i_Circle___init__ ?l_Circle___init__ ?c_Circle___init__ ?k_Circle___init__ ?dv_Circle___init__ ?a_are_drawn ?l_are_drawn ?c_are_drawn ?k_are_drawn ?a_Drawing___init__ ?i_Drawing___init__ ?l_Drawing___init__ ?c_Drawing___init__ ?k_Drawing___init__ ?a_is_number_text ?l_is_number_text ?c_is_number_text ?k_is_number_text ?a_comes_behind ?l_comes_behind ?c_comes_behind ?k_comes_behind ?a_member_taken ?l_member_taken ?c_member_taken ?k_member_taken ?a_bar_taken ?l_bar_taken ?c_bar_taken ?k_bar_taken ?a_year_taken ?l_year_taken ?c_year_taken ?k_year_taken ?a_pair_taken ?l_pair_taken ?c_pair_taken ?k_pair_taken ?a_CircleReader___init__ ?i_CircleReader___init__ ?l_CircleReader___init__ ?c_CircleReader___init__ ?k_CircleReader___init__ ?a_CircleReader_take_head ?i_CircleReader_take_head ?l_CircleReader_take_head ?c_CircleReader_take_head ?k_CircleReader_take_head ?a_CircleReader_take_row ?i_CircleReader_take_row ?l_CircleReader_take_row ?c_CircleReader_take_row ?k_CircleReader_take_row ?a_CircleReader_circle_told ?i_CircleReader_circle_told ?l_CircleReader_circle_told ?c_CircleReader_circle_told ?k_CircleReader_circle_told ?a_read_circle ?l_read_circle ?c_read_circle ?k_read_circle ?a_still_to_give ?l_still_to_give ?c_still_to_give ?k_still_to_give ?a_may_go_on ?l_may_go_on ?c_may_go_on ?k_may_go_on ?a_read_drawing ?l_read_drawing ?c_read_drawing ?k_read_drawing ?a__law_pot ?l__law_pot ?c__law_pot ?k__law_pot ?a__law_pick ?l__law_pick ?c__law_pick ?k__law_pick ?a__law_of ?l__law_of ?c__law_of ?k__law_of ?a__law_row_of ?l__law_row_of ?c__law_row_of ?k__law_row_of ?a__law_nested ?l__law_nested ?c__law_nested ?k__law_nested ?a__law_circles ?l__law_circles ?c__law_circles ?k__law_circles ?a__law_drawings ?l__law_drawings ?c__law_drawings ?k__law_drawings ?a_law ?l_law ?c_law ?k_law ?pg_Drawing ?hd_Drawing ?po_Drawing ?sa_Drawing ?mkk_Drawing ?kc_Drawing ?ha_Drawing ?hn_Drawing ?ht_Drawing ?hm_Drawing ?na_Drawing_pairs ?pg_Circle ?hd_Circle ?po_Circle ?sa_Circle ?mkk_Circle ?kc_Circle ?ha_Circle ?hn_Circle ?ht_Circle ?hm_Circle ?na_Circle_members ?na_Circle_bars ?na_Circle_past ?na_Circle_gap ?na_Circle_houses ?na_Circle_names_told ?na_Circle_barred ?na_Circle_gone_by ?pg_CircleReader ?hd_CircleReader ?po_CircleReader ?sa_CircleReader ?mkk_CircleReader ?kc_CircleReader ?ha_CircleReader ?hn_CircleReader ?ht_CircleReader ?hm_CircleReader ?na_CircleReader_last_kind ?na_CircleReader_gap_text ?na_CircleReader_members_told ?na_CircleReader_bars_told ?na_CircleReader_years_told ?g_LETTERS ?g_MOST_LETTERS ?g_FIGURE_SIGNS ?g_MOST_FIGURES ?n_len ?n_abs ?n_all ?n_any ?n_range ?n_isinstance ?n_list ?n_tuple ?n_str ?n_max ?n_min ?n_dict ?n_int ?n_bool ?n_enumerate ?n_zip ?n_set ?n_sorted) (K60.T60x_mk KX G ?aC_NoText ?aC_LotError ?aC_NoDrawing ?aC_NoMember ?aC_NoNumber ?aC_NoRow ?aC_NoYear ?hn_ ?ht_ ?a_NoText___init__ ?l_NoText___init__ ?c_NoText___init__ ?k_NoText___init__ ?ga_NoText ?gg_NoText ?ex_NoText ?hd_NoText ?ty_NoText ?kc_NoText ?ha_NoText ?hm_NoText ?xL_NoText ?sa_NoText ?t_NoText ?no_NoText_row ?ga_LotError ?gg_LotError ?ex_LotError ?hd_LotError ?ty_LotError ?kc_LotError ?ha_LotError ?hm_LotError ?li1 ?li2 ?li3 ?ko_NoText_NoText ?ko_NoText_ValueError ?ka_a ?su_NoText ?n_ValueError) ?a_ROW ?l_ROW ?kl_ROW ?lo_ROW ?rm ?rb ?ry ?rp) ?e1 ?e2 ?e3 ?e4
    (case aC_Drawing => k_is)
    (case aC_Circle => k_is)
    (case aC_CircleReader => k_is)
    (case a_is_name => k_is)
    (case l_is_name => k_is)
    (case c_is_name => k_is)
    (case k_is_name => k_is)
    (case a_is_pair => k_is)
    (case l_is_pair => k_is)
    (case c_is_pair => k_is)
    (case k_is_pair => k_is)
    (case a_does_rise => k_is)
    (case l_does_rise => k_is)
    (case c_does_rise => k_is)
    (case k_does_rise => k_is)
    (case a_are_pairs => k_is)
    (case l_are_pairs => k_is)
    (case c_are_pairs => k_is)
    (case k_are_pairs => k_is)
    (case a_Circle___init__ => k_is)
    (case i_Circle___init__ => k_is)
    (case l_Circle___init__ => k_is)
    (case c_Circle___init__ => k_is)
    (case k_Circle___init__ => k_is)
    (case dv_Circle___init__ => refine' MP.dfl3 ?lk ?d1 ?d2 ?d3; (case lk => k_is); (case d1 => rfl); (case d2 => rfl); (case d3 => exact ⟨_, rfl⟩))
    (case a_are_drawn => k_is)
    (case l_are_drawn => k_is)
    (case c_are_drawn => k_is)
    (case k_are_drawn => k_is)
    (case a_Drawing___init__ => k_is)
    (case i_Drawing___init__ => k_is)
    (case l_Drawing___init__ => k_is)
    (case c_Drawing___init__ => k_is)
    (case k_Drawing___init__ => k_is)
    (case a_is_number_text => k_is)
    (case l_is_number_text => k_is)
    (case c_is_number_text => k_is)
    (case k_is_number_text => k_is)
    (case a_comes_behind => k_is)
    (case l_comes_behind => k_is)
    (case c_comes_behind => k_is)
    (case k_comes_behind => k_is)
    (case a_member_taken => k_is)
    (case l_member_taken => k_is)
    (case c_member_taken => k_is)
    (case k_member_taken => k_is)
    (case a_bar_taken => k_is)
    (case l_bar_taken => k_is)
    (case c_bar_taken => k_is)
    (case k_bar_taken => k_is)
    (case a_year_taken => k_is)
    (case l_year_taken => k_is)
    (case c_year_taken => k_is)
    (case k_year_taken => k_is)
    (case a_pair_taken => k_is)
    (case l_pair_taken => k_is)
    (case c_pair_taken => k_is)
    (case k_pair_taken => k_is)
    (case a_CircleReader___init__ => k_is)
    (case i_CircleReader___init__ => k_is)
    (case l_CircleReader___init__ => k_is)
    (case c_CircleReader___init__ => k_is)
    (case k_CircleReader___init__ => k_is)
    (case a_CircleReader_take_head => k_is)
    (case i_CircleReader_take_head => k_is)
    (case l_CircleReader_take_head => k_is)
    (case c_CircleReader_take_head => k_is)
    (case k_CircleReader_take_head => k_is)
    (case a_CircleReader_take_row => k_is)
    (case i_CircleReader_take_row => k_is)
    (case l_CircleReader_take_row => k_is)
    (case c_CircleReader_take_row => k_is)
    (case k_CircleReader_take_row => k_is)
    (case a_CircleReader_circle_told => k_is)
    (case i_CircleReader_circle_told => k_is)
    (case l_CircleReader_circle_told => k_is)
    (case c_CircleReader_circle_told => k_is)
    (case k_CircleReader_circle_told => k_is)
    (case a_read_circle => k_is)
    (case l_read_circle => k_is)
    (case c_read_circle => k_is)
    (case k_read_circle => k_is)
    (case a_still_to_give => k_is)
    (case l_still_to_give => k_is)
    (case c_still_to_give => k_is)
    (case k_still_to_give => k_is)
    (case a_may_go_on => k_is)
    (case l_may_go_on => k_is)
    (case c_may_go_on => k_is)
    (case k_may_go_on => k_is)
    (case a_read_drawing => k_is)
    (case l_read_drawing => k_is)
    (case c_read_drawing => k_is)
    (case k_read_drawing => k_is)
    (case a__law_pot => k_is)
    (case l__law_pot => k_is)
    (case c__law_pot => k_is)
    (case k__law_pot => k_is)
    (case a__law_pick => k_is)
    (case l__law_pick => k_is)
    (case c__law_pick => k_is)
    (case k__law_pick => k_is)
    (case a__law_of => k_is)
    (case l__law_of => k_is)
    (case c__law_of => k_is)
    (case k__law_of => k_is)
    (case a__law_row_of => k_is)
    (case l__law_row_of => k_is)
    (case c__law_row_of => k_is)
    (case k__law_row_of => k_is)
    (case a__law_nested => k_is)
    (case l__law_nested => k_is)
    (case c__law_nested => k_is)
    (case k__law_nested => k_is)
    (case a__law_circles => k_is)
    (case l__law_circles => k_is)
    (case c__law_circles => k_is)
    (case k__law_circles => k_is)
    (case a__law_drawings => k_is)
    (case l__law_drawings => k_is)
    (case c__law_drawings => k_is)
    (case k__law_drawings => k_is)
    (case a_law => k_is)
    (case l_law => k_is)
    (case c_law => k_is)
    (case k_law => k_is)
    (case pg_Drawing => k_is)
    (case hd_Drawing => k_is)
    (case po_Drawing => k_is)
    (case sa_Drawing => k_is)
    (case mkk_Drawing => k_is)
    (case kc_Drawing => k_is)
    (case ha_Drawing => k_is)
    (case hn_Drawing => k_is)
    (case ht_Drawing => k_is)
    (case hm_Drawing => k_is)
    (case na_Drawing_pairs => k_is)
    (case pg_Circle => k_is)
    (case hd_Circle => k_is)
    (case po_Circle => k_is)
    (case sa_Circle => k_is)
    (case mkk_Circle => k_is)
    (case kc_Circle => k_is)
    (case ha_Circle => k_is)
    (case hn_Circle => k_is)
    (case ht_Circle => k_is)
    (case hm_Circle => k_is)
    (case na_Circle_members => k_is)
    (case na_Circle_bars => k_is)
    (case na_Circle_past => k_is)
    (case na_Circle_gap => k_is)
    (case na_Circle_houses => k_is)
    (case na_Circle_names_told => k_is)
    (case na_Circle_barred => k_is)
    (case na_Circle_gone_by => k_is)
    (case pg_CircleReader => k_is)
    (case hd_CircleReader => k_is)
    (case po_CircleReader => k_is)
    (case sa_CircleReader => k_is)
    (case mkk_CircleReader => k_is)
    (case kc_CircleReader => k_is)
    (case ha_CircleReader => k_is)
    (case hn_CircleReader => k_is)
    (case ht_CircleReader => k_is)
    (case hm_CircleReader => k_is)
    (case na_CircleReader_last_kind => k_is)
    (case na_CircleReader_gap_text => k_is)
    (case na_CircleReader_members_told => k_is)
    (case na_CircleReader_bars_told => k_is)
    (case na_CircleReader_years_told => k_is)
    (case g_LETTERS => k_is)
    (case g_MOST_LETTERS => k_is)
    (case g_FIGURE_SIGNS => k_is)
    (case g_MOST_FIGURES => k_is)
    (case n_len => k_is)
    (case n_abs => k_is)
    (case n_all => k_is)
    (case n_any => k_is)
    (case n_range => k_is)
    (case n_isinstance => k_is)
    (case n_list => k_is)
    (case n_tuple => k_is)
    (case n_str => k_is)
    (case n_max => k_is)
    (case n_min => k_is)
    (case n_dict => k_is)
    (case n_int => k_is)
    (case n_bool => k_is)
    (case n_enumerate => k_is)
    (case n_zip => k_is)
    (case n_set => k_is)
    (case n_sorted => k_is)
    (case aC_NoText => k_is)
    (case aC_LotError => k_is)
    (case aC_NoDrawing => k_is)
    (case aC_NoMember => k_is)
    (case aC_NoNumber => k_is)
    (case aC_NoRow => k_is)
    (case aC_NoYear => k_is)
    (case hn_ => k_is)
    (case ht_ => k_is)
    (case a_NoText___init__ => k_is)
    (case l_NoText___init__ => k_is)
    (case c_NoText___init__ => k_is)
    (case k_NoText___init__ => k_is)
    (case ga_NoText => k_is)
    (case gg_NoText => k_is)
    (case ex_NoText => k_is)
    (case hd_NoText => k_is)
    (case ty_NoText => k_is)
    (case kc_NoText => k_is)
    (case ha_NoText => k_is)
    (case hm_NoText => k_is)
    (case xL_NoText => k_is)
    (case sa_NoText => k_is)
    (case t_NoText => k_is)
    (case no_NoText_row => k_is)
    (case ga_LotError => k_is)
    (case gg_LotError => k_is)
    (case ex_LotError => k_is)
    (case hd_LotError => k_is)
    (case ty_LotError => k_is)
    (case kc_LotError => k_is)
    (case ha_LotError => k_is)
    (case hm_LotError => k_is)
    (case li1 => k_is)
    (case li2 => k_is)
    (case li3 => k_is)
    (case ko_NoText_NoText => first | k_is | kit_is)
    (case ko_NoText_ValueError => first | k_is | kit_is)
    (case ka_a => first | k_is | kit_is)
    (case su_NoText => k_is)
    (case n_ValueError => k_is)
    (case a_ROW => k_is)
    (case l_ROW => k_is)
    (case kl_ROW => exact ⟨⟨_, _, rfl, rfl⟩, ⟨_, _, rfl, rfl⟩, ⟨_, _, rfl, rfl⟩, ⟨_, _, rfl, rfl⟩, trivial⟩)
    (case lo_ROW => decide)
    (case rm => k_is)
    (case rb => k_is)
    (case ry => k_is)
    (case rp => k_is)
    (case e1 => rfl)
    (case e2 => rfl)
    (case e3 => rfl)
    (case e4 => rfl)
